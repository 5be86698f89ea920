import PyProof.Rows.All
import Wide.All
import OpenK.AllK
import Wide.FinOn
import HandS.ForMost
import HandS.Wide
import KE.KDictKeyed
import KE.KeyNested
import HandS.IsInst
import HandS.Deep
import HandS.TupAny
import KE.SortData
import HandS.Steps
import KE.KDictSum
import HandS.Defaults
import HandS.Dict
import KE.GoesEnum
import KE.GoesMore
import HandS.Iter
import HandS.SortKw
import HandS.DictEq
import KE.KEqDict
import HandS.Conv
import HandS.DictComp
import HandS.ExcInit
import HandS.ExcField
import HandS.CallSlots
import HandS.WordsExc
import HandS.ClsMeth
import HandS.List
import HandS.More
import HandS.Style
import HandS.OwnEq
import HandS.Text
import HandS.Exc
import HandS.OwnIter
import HandS.IterVal
import PyProof.TupleIter
import PyProof.WalksMore
import KE.KOwnIter
import HandS.Lambda
import PySem.Challenge.RW_askedtrue_k00_texts_of_orders_and_back
set_option Elab.async false
set_option linter.all false
set_option maxRecDepth 100000
set_option maxHeartbeats 4000000
/-! L3: data in place of heaps: what a reading hands on, said of plain data. -/
namespace L3
open PySem L2

/-! ### data -/
inductive D where
  | non | bl (b : Bool) | int (i : Int) | str (s : Str) | lst (xs : List D) | tup (xs : List D) | obj (C : Addr) (fs : List (Str × D)) | adr (a : Addr) | ty (n : String) | dct (kvs : List (L2.Key × D)) | dcn (pr : Program) (wd : World) (kvs : List (D × D))

mutual
/-- a key of a dict as the library tells it -/
def nk : D → NestedKey
  | .int i => .num i
  | .str s => .text s
  | .tup xs => .tup (nkAll xs)
  | _ => .none
def nkAll : List D → List NestedKey
  | [] => []
  | x :: xs => nk x :: nkAll xs
end
mutual
def nkOk : D → Bool
  | .non => true
  | .int _ => true
  | .str _ => true
  | .tup xs => nkOkAll xs
  | _ => false
def nkOkAll : List D → Bool
  | [] => true
  | x :: xs => nkOk x && nkOkAll xs
end
/-- fit for a key of a dict -/
def keyD : D → Bool
  | .tup xs => nkOkAll xs && decide ((nk (.tup xs)).depth ≤ 8)
  | _ => false
def DictBare (pr : Program) (wd : World) (xs : List (NestedKey × Addr × Value)) (a : Addr) (h : Heap) : Prop :=
  ∃ o es ep, h.get? a = some o ∧ o.ExactDict ∧ o.data = .dict es ep ∧ es.toList = xs.map (entryOfKey (nestedKind pr wd)) ∧ (xs.map (·.1)).Nodup
mutual
inductive Rp (K : PySem.W.Frag) (H : Hp) : V → D → Prop
  | non : Rp K H .non .non
  | bl (b : Bool) : Rp K H (.bl b) (.bl b)
  | int (i : Int) : Rp K H (.int i) (.int i)
  | str (x : Str) : Rp K H (.str x) (.str x)
  | lst {a : Addr} {xs : List V} {ds : List D} : Rd H a (.lst xs) → RpAll K H xs ds → Rp K H (.ref a) (.lst ds)
  | tup {a : Addr} {xs : List V} {ds : List D} : SqT K H a xs → RpAll K H xs ds → Rp K H (.ref a) (.tup ds)
  | obj {a C dx : Addr} {fs : List (Str × V)} {ds : List (Str × D)} : H a = some (.ins C dx fs) → RpFs K H fs ds → Rp K H (.ref a) (.obj C ds)
  | adr (a : Addr) : Rp K H (.ref a) (.adr a)
  | ty (n : String) : Rp K H (.ty n) (.ty n)
  | dct {a : Addr} {xs : List (L2.Key × V)} {kvs : List (L2.Key × D)} : Rd H a (.dK xs) → RpKs K H xs kvs → Rp K H (.ref a) (.dct kvs)
  | dcn {a : Addr} {pr : Program} {wd : World} {xs : List (NestedKey × Addr × Value)} {kvs : List (D × D)} : Rd H a (.ext (DictBare pr wd xs a)) → (a == sysModules) = false → RpNs K H xs kvs → Rp K H (.ref a) (.dcn pr wd kvs)
inductive RpAll (K : PySem.W.Frag) (H : Hp) : List V → List D → Prop
  | nil : RpAll K H [] []
  | cons {v : V} {vs : List V} {d : D} {ds : List D} : Rp K H v d → RpAll K H vs ds → RpAll K H (v :: vs) (d :: ds)
inductive RpFs (K : PySem.W.Frag) (H : Hp) : List (Str × V) → List (Str × D) → Prop
  | nil : RpFs K H [] []
  | cons {x : Str} {v : V} {vs : List (Str × V)} {d : D} {ds : List (Str × D)} : Rp K H v d → RpFs K H vs ds → RpFs K H ((x, v) :: vs) ((x, d) :: ds)
inductive RpKs (K : PySem.W.Frag) (H : Hp) : List (L2.Key × V) → List (L2.Key × D) → Prop
  | nil : RpKs K H [] []
  | cons {x : L2.Key} {v : V} {vs : List (L2.Key × V)} {d : D} {ds : List (L2.Key × D)} : Rp K H v d → RpKs K H vs ds → RpKs K H ((x, v) :: vs) ((x, d) :: ds)
inductive RpNs (K : PySem.W.Frag) (H : Hp) : List (NestedKey × Addr × Value) → List (D × D) → Prop
  | nil : RpNs K H [] []
  | cons {x : NestedKey × Addr × Value} {v : V} {xs : List (NestedKey × Addr × Value)} {kd d : D} {ds : List (D × D)} : keyD kd = true → x.1 = nk kd → Rp K H (.ref x.2.1) kd → RelV v x.2.2 → Rp K H v d → RpNs K H xs ds → RpNs K H (x :: xs) ((kd, d) :: ds)
end

theorem same_rd {H H' : Hp} {a : Addr} {u : HO} (e : Same H H') (h : Rd H a u) : Rd H' a u := by
  rcases h with h | ⟨o, h⟩
  · exact .inl (e a _ h)
  · exact .inr ⟨o, e a _ h⟩
theorem same_l {K : PySem.W.Frag} {H H' : Hp} {a : Addr} {xs : List V} (e : Same H H') (h : SqL K H a xs) : SqL K H' a xs := by
  rcases h with h | h
  · exact .inl (same_rd e h)
  · exact .inr h
theorem same_t {K : PySem.W.Frag} {H H' : Hp} {a : Addr} {xs : List V} (e : Same H H') (h : SqT K H a xs) : SqT K H' a xs := by
  rcases h with h | h
  · exact .inl (same_rd e h)
  · exact .inr h

section
variable {K : PySem.W.Frag} {H H' : Hp}
mutual
theorem Rp.mono (e : Same H H') : ∀ {v : V} {d : D}, Rp K H v d → Rp K H' v d
  | _, _, .non => .non
  | _, _, .bl b => .bl b
  | _, _, .int i => .int i
  | _, _, .str x => .str x
  | _, _, .lst h r => .lst (same_rd e h) (RpAll.mono e r)
  | _, _, .tup h r => .tup (same_t e h) (RpAll.mono e r)
  | _, _, .obj h r => .obj (e _ _ h) (RpFs.mono e r)
  | _, _, .adr a => .adr a
  | _, _, .ty n => .ty n
  | _, _, .dct h r => .dct (same_rd e h) (RpKs.mono e r)
  | _, _, .dcn h s r => .dcn (same_rd e h) s (RpNs.mono e r)
theorem RpAll.mono (e : Same H H') : ∀ {vs : List V} {ds : List D}, RpAll K H vs ds → RpAll K H' vs ds
  | _, _, .nil => .nil
  | _, _, .cons h r => .cons (Rp.mono e h) (RpAll.mono e r)
theorem RpFs.mono (e : Same H H') : ∀ {vs : List (Str × V)} {ds : List (Str × D)}, RpFs K H vs ds → RpFs K H' vs ds
  | _, _, .nil => .nil
  | _, _, .cons h r => .cons (Rp.mono e h) (RpFs.mono e r)
theorem RpKs.mono (e : Same H H') : ∀ {vs : List (L2.Key × V)} {ds : List (L2.Key × D)}, RpKs K H vs ds → RpKs K H' vs ds
  | _, _, .nil => .nil
  | _, _, .cons h r => .cons (Rp.mono e h) (RpKs.mono e r)
theorem RpNs.mono (e : Same H H') : ∀ {vs : List (NestedKey × Addr × Value)} {ds : List (D × D)}, RpNs K H vs ds → RpNs K H' vs ds
  | _, _, .nil => .nil
  | _, _, .cons a b h w v r => .cons a b (Rp.mono e h) w (Rp.mono e v) (RpNs.mono e r)
end
theorem RpAll.length : ∀ {vs : List V} {ds : List D}, RpAll K H vs ds → vs.length = ds.length
  | _, _, .nil => rfl
  | _, _, .cons _ r => by rw [List.length_cons, List.length_cons, RpAll.length r]
theorem RpAll.get : ∀ {vs : List V} {ds : List D} {i : Nat} {v : V}, RpAll K H vs ds → vs[i]? = some v → ∃ d, ds[i]? = some d ∧ Rp K H v d
  | _, _, _, _, .nil, e => by simp at e
  | _, _, 0, _, .cons h _, e => by simp at e; subst e; exact ⟨_, rfl, h⟩
  | _, _, i + 1, _, .cons _ r, e => by
    obtain ⟨d, h1, h2⟩ := RpAll.get (i := i) r (by simpa using e)
    exact ⟨d, by simpa using h1, h2⟩
theorem RpAll.get' : ∀ {vs : List V} {ds : List D} {i : Nat} {d : D}, RpAll K H vs ds → ds[i]? = some d → ∃ v, vs[i]? = some v ∧ Rp K H v d
  | _, _, _, _, .nil, e => by simp at e
  | _, _, 0, _, .cons h _, e => by simp at e; subst e; exact ⟨_, rfl, h⟩
  | _, _, i + 1, _, .cons _ r, e => by
    obtain ⟨d, h1, h2⟩ := RpAll.get' (i := i) r (by simpa using e)
    exact ⟨d, by simpa using h1, h2⟩
theorem RpAll.append : ∀ {vs ws : List V} {ds es : List D}, RpAll K H vs ds → RpAll K H ws es → RpAll K H (vs ++ ws) (ds ++ es)
  | _, _, _, _, .nil, s => s
  | _, _, _, _, .cons h r, s => .cons h (RpAll.append r s)
theorem RpAll.take : ∀ {vs : List V} {ds : List D} (n : Nat), RpAll K H vs ds → RpAll K H (vs.take n) (ds.take n)
  | _, _, 0, _ => .nil
  | _, _, _ + 1, .nil => .nil
  | _, _, n + 1, .cons h r => .cons h (RpAll.take n r)
theorem RpAll.drop : ∀ {vs : List V} {ds : List D} (n : Nat), RpAll K H vs ds → RpAll K H (vs.drop n) (ds.drop n)
  | _, _, 0, r => r
  | _, _, _ + 1, .nil => .nil
  | _, _, n + 1, .cons _ r => RpAll.drop n r
theorem RpAll.set {v : V} {d : D} (h : Rp K H v d) : ∀ {vs : List V} {ds : List D} (i : Nat), RpAll K H vs ds → RpAll K H (vs.set i v) (ds.set i d)
  | _, _, _, .nil => .nil
  | _, _, 0, .cons _ r => .cons h r
  | _, _, i + 1, .cons q r => .cons q (RpAll.set h i r)
theorem RpAll.eraseIdx : ∀ {vs : List V} {ds : List D} (i : Nat), RpAll K H vs ds → RpAll K H (vs.eraseIdx i) (ds.eraseIdx i)
  | _, _, _, .nil => .nil
  | _, _, 0, .cons _ r => r
  | _, _, i + 1, .cons q r => .cons q (RpAll.eraseIdx i r)
theorem RpAll.ints : ∀ {vs : List V} {ns : List Int}, RpAll K H vs (ns.map D.int) → vs = ns.map V.int
  | _, [], h => by cases h; rfl
  | _, n :: ns, h => by
    cases h with
    | cons h r => cases h; rw [RpAll.ints r]; rfl
theorem RpAll.ofInts : ∀ (ns : List Int), RpAll K H (ns.map V.int) (ns.map D.int)
  | [] => .nil
  | n :: ns => .cons (.int n) (RpAll.ofInts ns)
end

/-! ### hidden addresses -/
def hid (O : List Addr) (H : Hp) : Hp := fun a => if a ∈ O then none else H a
theorem hid_in {O : List Addr} {H : Hp} {a : Addr} (h : a ∈ O) : hid O H a = none := if_pos h
theorem hid_out {O : List Addr} {H : Hp} {a : Addr} (h : a ∉ O) : hid O H a = H a := if_neg h
theorem hid_some {O : List Addr} {H : Hp} {a : Addr} {o : HO} : hid O H a = some o ↔ a ∉ O ∧ H a = some o := by
  unfold hid
  by_cases h : a ∈ O
  · rw [if_pos h]; exact ⟨(fun e => nomatch e), fun e => absurd h e.1⟩
  · rw [if_neg h]; exact ⟨fun e => ⟨h, e⟩, fun e => e.2⟩
theorem hid_nil {H : Hp} : hid [] H = H := by
  funext a; exact hid_out (by simp)
theorem same_hid {O : List Addr} {H : Hp} : Same (hid O H) H := fun a o e => (hid_some.mp e).2
theorem same_hid_sub {O O' : List Addr} {H : Hp} (h : ∀ a, a ∈ O → a ∈ O') : Same (hid O' H) (hid O H) := fun a o e => by
  obtain ⟨h1, h2⟩ := hid_some.mp e
  exact hid_some.mpr ⟨fun q => h1 (h a q), h2⟩
theorem same_hid_of {O : List Addr} {H H' : Hp} (e : Same H H') : Same (hid O H) (hid O H') := fun a o q => by
  obtain ⟨h1, h2⟩ := hid_some.mp q
  exact hid_some.mpr ⟨h1, e a o h2⟩
/-- hiding more of two heaps that agree -/
theorem same_hid_more {O B : List Addr} {H H' : Hp} (h : ∀ a, a ∈ B → a ∈ O) (e : Same (hid B H) (hid B H')) : Same (hid O H) (hid O H') := fun a o q => by
  obtain ⟨h1, h2⟩ := hid_some.mp q
  exact hid_some.mpr ⟨h1, (hid_some.mp (e a o (hid_some.mpr ⟨fun q => h1 (h a q), h2⟩))).2⟩
theorem hid_upd_in {O : List Addr} {H : Hp} {a : Addr} {o : HO} (h : a ∈ O) : hid O (upd H a o) = hid O H := by
  funext b
  unfold hid
  by_cases hb : b ∈ O
  · rw [if_pos hb, if_pos hb]
  · rw [if_neg hb, if_neg hb, upd_ne (fun e => hb (by rw [e]; exact h))]
theorem same_upd_new {H : Hp} {p : Addr} {o : HO} (h : H p = none) : Same H (upd H p o) := fun b u e => by
  rw [upd_ne (ne_of_none e h)]; exact e
theorem hid_new_in {O : List Addr} {H : Hp} {p : Addr} {o : HO} (h : H p = none) : hid (p :: O) (upd H p o) = hid O H := by
  funext b
  unfold hid
  by_cases hb : b = p
  · subst hb
    rw [if_pos List.mem_cons_self]
    by_cases h2 : b ∈ O
    · rw [if_pos h2]
    · rw [if_neg h2, h]
  · by_cases h2 : b ∈ O
    · rw [if_pos (List.mem_cons_of_mem _ h2), if_pos h2]
    · rw [if_neg (fun q => by rcases List.mem_cons.mp q with e | e; exact hb e; exact h2 e), if_neg h2, upd_ne hb]

/-! ### the bag: a list of a list of non-negative ints, a turn, a rest -/
def BagOk (b q : Addr) (n : Nat) (H : Hp) : Prop :=
  ∃ (t r : Int) (cs : List Int), H b = some (.lst [.ref q, .int t, .int r]) ∧ H q = some (.lst (cs.map V.int)) ∧ cs ≠ [] ∧ (∀ c ∈ cs, 0 ≤ c) ∧ cs.length ≤ 63 ∧ 0 ≤ t ∧ t ≤ n ∧ 0 ≤ r
theorem BagOk.move {b q : Addr} {n : Nat} {H H' : Hp} (h : BagOk b q n H) (e : ∀ o, H b = some o → H' b = some o) (e2 : ∀ o, H q = some o → H' q = some o) : BagOk b q n H' := by
  obtain ⟨t, r, cs, h1, h2, h3⟩ := h
  exact ⟨t, r, cs, e _ h1, e2 _ h2, h3⟩
theorem BagOk.le {b q : Addr} {n m : Nat} {H : Hp} (h : BagOk b q n H) (hn : n ≤ m) : BagOk b q m H := by
  obtain ⟨t, r, cs, h1, h2, h4, h5, h6, h7, h8, h9⟩ := h
  exact ⟨t, r, cs, h1, h2, h4, h5, h6, h7, by omega, h9⟩
theorem BagOk.lst {b q : Addr} {n : Nat} {H : Hp} (h : BagOk b q n H) : ∃ xs, H b = some (.lst xs) := by
  obtain ⟨t, r, cs, h1, _⟩ := h
  exact ⟨_, h1⟩

/-! ### the context, slots -/
structure Ctx where
  pr : Program
  wd : World
  K : PySem.W.Frag
  /-- owned by callers -/
  O : List Addr
  bag : Option (Addr × Addr)
  /-- the heap at the entry -/
  H0 : Hp
def Ctx.B (c : Ctx) : List Addr := (c.bag.map (·.1)).toList
def Ctx.J (c : Ctx) (n : Nat) (H : Hp) : Prop := ∀ b q, c.bag = some (b, q) → BagOk b q n H
inductive SD where
  | un
  | val (d : D)
  | own (ds : List D)
  | dic (kvs : List (D × D))
  | dk (kvs : List (L2.Key × D))
  | tw (l : Addr) (kvs : List (D × D)) (ds : List D)
/-- one entry -/
def EntD (K : PySem.W.Frag) (H : Hp) (kv : D × D) (x : NestedKey × Addr × Value) : Prop := keyD kv.1 = true ∧ x.1 = nk kv.1 ∧ Rp K H (.ref x.2.1) kv.1 ∧ ∃ v, RelV v x.2.2 ∧ Rp K H v kv.2
def NDict (pr : Program) (wd : World) (K : PySem.W.Frag) (O : List Addr) (H : Hp) (l : Addr) (kvs : List (D × D)) : Prop :=
  ∃ xs, H l = some (.ext (DictBare pr wd xs l)) ∧ (l == sysModules) = false ∧ Paired (EntD K (hid O H)) kvs xs
theorem EntD.mono {K : PySem.W.Frag} {H H' : Hp} {kv : D × D} {x : NestedKey × Addr × Value} (e : Same H H') (h : EntD K H kv x) : EntD K H' kv x := by
  obtain ⟨h1, h2, h3, v, h4, h5⟩ := h
  exact ⟨h1, h2, h3.mono e, v, h4, h5.mono e⟩
theorem Paired.imp' {α β : Type} {R S : α → β → Prop} (f : ∀ a b, R a b → S a b) : ∀ {xs : List α} {ys : List β}, Paired R xs ys → Paired S xs ys
  | _, _, .nil => .nil
  | _, _, .cons h t => .cons (f _ _ h) (Paired.imp' f t)
theorem NDict.move {pr : Program} {wd : World} {K : PySem.W.Frag} {O O' : List Addr} {H H' : Hp} {l : Addr} {kvs : List (D × D)} (h : NDict pr wd K O H l kvs) (hl : H' l = H l) (e : Same (hid O H) (hid O' H')) : NDict pr wd K O' H' l kvs := by
  obtain ⟨xs, h1, h2, h3⟩ := h
  exact ⟨xs, hl.trans h1, h2, Paired.imp' (fun _ _ q => q.mono e) h3⟩
theorem RpNs.pair {K : PySem.W.Frag} {H : Hp} : ∀ {xs : List (NestedKey × Addr × Value)} {kvs : List (D × D)}, RpNs K H xs kvs → Paired (EntD K H) kvs xs
  | _, _, .nil => .nil
  | _, _, .cons a b h w v r => .cons ⟨a, b, h, _, w, v⟩ (RpNs.pair r)
theorem RpNs.of {K : PySem.W.Frag} {H : Hp} : ∀ {kvs : List (D × D)} {xs : List (NestedKey × Addr × Value)}, Paired (EntD K H) kvs xs → RpNs K H xs kvs
  | _, _, .nil => .nil
  | (kd, d) :: _, _, .cons ⟨a, b, h, _, w, v⟩ r => .cons a b h w v (RpNs.of r)
/-- a tuple whose head is a dict of one's own -/
def TDict (pr : Program) (wd : World) (K : PySem.W.Frag) (O : List Addr) (H : Hp) (t l : Addr) (kvs : List (D × D)) (ds : List D) : Prop :=
  ∃ vs, SqT K (hid O H) t (.ref l :: vs) ∧ RpAll K (hid O H) vs ds ∧ NDict pr wd K O H l kvs
theorem TDict.move {pr : Program} {wd : World} {K : PySem.W.Frag} {O O' : List Addr} {H H' : Hp} {t l : Addr} {kvs : List (D × D)} {ds : List D} (h : TDict pr wd K O H t l kvs ds) (hl : H' l = H l) (e : Same (hid O H) (hid O' H')) : TDict pr wd K O' H' t l kvs ds := by
  obtain ⟨vs, h1, h2, h3⟩ := h
  exact ⟨vs, same_t e h1, h2.mono e, h3.move hl e⟩
/-- a dict of one's own whose keys are ints and texts -/
def KDict (pr : Program) (wd : World) (K : PySem.W.Frag) (O : List Addr) (H : Hp) (l : Addr) (kvs : List (L2.Key × D)) : Prop := ∃ xs, H l = some (.dK xs) ∧ RpKs K (hid O H) xs kvs
theorem KDict.move {pr : Program} {wd : World} {K : PySem.W.Frag} {O O' : List Addr} {H H' : Hp} {l : Addr} {kvs : List (L2.Key × D)} (h : KDict pr wd K O H l kvs) (hl : H' l = H l) (e : Same (hid O H) (hid O' H')) : KDict pr wd K O' H' l kvs := by
  obtain ⟨xs, h1, h3⟩ := h
  exact ⟨xs, hl.trans h1, h3.mono e⟩
inductive Slots (pr : Program) (wd : World) (K : PySem.W.Frag) (O : List Addr) (H : Hp) : List (Option V) → List SD → List Addr → Prop
  | nil : Slots pr wd K O H [] [] []
  | un {x : Option V} {σ : List (Option V)} {ρ : List SD} {L : List Addr} : Slots pr wd K O H σ ρ L → Slots pr wd K O H (x :: σ) (.un :: ρ) L
  | val {v : V} {d : D} {σ : List (Option V)} {ρ : List SD} {L : List Addr} : Rp K (hid O H) v d → Slots pr wd K O H σ ρ L → Slots pr wd K O H (some v :: σ) (.val d :: ρ) L
  | own {l : Addr} {xs : List V} {ds : List D} {σ : List (Option V)} {ρ : List SD} {L : List Addr} : H l = some (.lst xs) → RpAll K (hid O H) xs ds → Slots pr wd K O H σ ρ L → Slots pr wd K O H (some (.ref l) :: σ) (.own ds :: ρ) (l :: L)
  | dic {l : Addr} {kvs : List (D × D)} {σ : List (Option V)} {ρ : List SD} {L : List Addr} : NDict pr wd K O H l kvs → Slots pr wd K O H σ ρ L → Slots pr wd K O H (some (.ref l) :: σ) (.dic kvs :: ρ) (l :: L)
  | dk {l : Addr} {kvs : List (L2.Key × D)} {σ : List (Option V)} {ρ : List SD} {L : List Addr} : KDict pr wd K O H l kvs → Slots pr wd K O H σ ρ L → Slots pr wd K O H (some (.ref l) :: σ) (.dk kvs :: ρ) (l :: L)
  | tw {t l : Addr} {kvs : List (D × D)} {ds : List D} {σ : List (Option V)} {ρ : List SD} {L : List Addr} : TDict pr wd K O H t l kvs ds → Slots pr wd K O H σ ρ L → Slots pr wd K O H (some (.ref t) :: σ) (.tw l kvs ds :: ρ) (l :: L)
/-- P: what has been seen to stand for good -/
structure Env (c : Ctx) (P : Hp) (L : List Addr) (n : Nat) (H : Hp) (σ : List (Option V)) (ρ : List SD) : Prop where
  nd : L.Nodup
  fresh : ∀ l ∈ L, c.H0 l = none ∧ l ∉ c.O
  slots : ∃ Ls, Slots c.pr c.wd c.K (L ++ c.O) H σ ρ Ls ∧ Ls.Sublist L
  lst : ∀ l ∈ L, ∃ o, H l = some o
  bag : c.J n H
  base : Same (hid c.B c.H0) (hid c.B H)
  pers : Same P (hid (L ++ c.O) H)
  bO : ∀ b q, c.bag = some (b, q) → b ∈ c.O ∧ q ∈ c.O ∧ q ≠ b
  al : ∀ o ∈ c.O, H o ≠ none

section
variable {pr : Program} {wd : World} {K : PySem.W.Frag} {O O' : List Addr} {H H' : Hp} {σ : List (Option V)} {ρ : List SD} {L : List Addr}
theorem Slots.len (s : Slots pr wd K O H σ ρ L) : σ.length = ρ.length := by
  induction s with
  | nil => rfl
  | un _ ih => simp [ih]
  | val _ _ ih => simp [ih]
  | own _ _ _ ih => simp [ih]
  | dic _ _ ih => simp [ih]
  | dk _ _ ih => simp [ih]
  | tw _ _ ih => simp [ih]
/-- the owned lists stand, all else that may be seen stands -/
theorem Slots.move (s : Slots pr wd K O H σ ρ L) (hL : ∀ l ∈ L, H' l = H l) (e : Same (hid O H) (hid O' H')) : Slots pr wd K O' H' σ ρ L := by
  induction s with
  | nil => exact .nil
  | un _ ih => exact .un (ih hL)
  | val h _ ih => exact .val (h.mono e) (ih hL)
  | own h1 h2 _ ih => exact .own ((hL _ List.mem_cons_self).trans h1) (h2.mono e) (ih fun l hl => hL l (List.mem_cons_of_mem _ hl))
  | dic h1 _ ih => exact .dic (h1.move (hL _ List.mem_cons_self) e) (ih fun l hl => hL l (List.mem_cons_of_mem _ hl))
  | dk h1 _ ih => exact .dk (h1.move (hL _ List.mem_cons_self) e) (ih fun l hl => hL l (List.mem_cons_of_mem _ hl))
  | tw h1 _ ih => exact .tw (h1.move (hL _ List.mem_cons_self) e) (ih fun l hl => hL l (List.mem_cons_of_mem _ hl))
theorem Slots.get {d : D} : ∀ {σ : List (Option V)} {ρ : List SD} {L : List Addr} {i : Nat}, Slots pr wd K O H σ ρ L → ρ[i]? = some (.val d) → ∃ v, σ[i]? = some (some v) ∧ Rp K (hid O H) v d
  | _, _, _, _, .nil, e => by simp at e
  | _, _, _, 0, .un _, e => by simp at e
  | _, _, _, i + 1, .un s, e => by simpa using Slots.get (i := i) s (by simpa using e)
  | _, _, _, 0, .val h _, e => by simp at e; subst e; exact ⟨_, rfl, h⟩
  | _, _, _, i + 1, .val _ s, e => by simpa using Slots.get (i := i) s (by simpa using e)
  | _, _, _, 0, .own _ _ _, e => by simp at e
  | _, _, _, i + 1, .own _ _ s, e => by simpa using Slots.get (i := i) s (by simpa using e)
  | _, _, _, 0, .dic _ _, e => by simp at e
  | _, _, _, 0, .dk _ _, e => by simp at e
  | _, _, _, 0, .tw _ _, e => by simp at e
  | _, _, _, i + 1, .dic _ s, e => by simpa using Slots.get (i := i) s (by simpa using e)
  | _, _, _, i + 1, .dk _ s, e => by simpa using Slots.get (i := i) s (by simpa using e)
  | _, _, _, i + 1, .tw _ s, e => by simpa using Slots.get (i := i) s (by simpa using e)
theorem Slots.getO {ds : List D} : ∀ {σ : List (Option V)} {ρ : List SD} {L : List Addr} {i : Nat}, Slots pr wd K O H σ ρ L → ρ[i]? = some (.own ds) → ∃ l xs, σ[i]? = some (some (.ref l)) ∧ l ∈ L ∧ H l = some (.lst xs) ∧ RpAll K (hid O H) xs ds
  | _, _, _, _, .nil, e => by simp at e
  | _, _, _, 0, .un _, e => by simp at e
  | _, _, _, i + 1, .un s, e => by simpa using Slots.getO (i := i) s (by simpa using e)
  | _, _, _, 0, .val _ _, e => by simp at e
  | _, _, _, i + 1, .val _ s, e => by simpa using Slots.getO (i := i) s (by simpa using e)
  | _, _, _, 0, .own h r _, e => by simp at e; subst e; exact ⟨_, _, rfl, List.mem_cons_self, h, r⟩
  | _, _, _, i + 1, .own _ _ s, e => by
    obtain ⟨l, xs, h1, h2, h3⟩ := Slots.getO (i := i) s (by simpa using e)
    exact ⟨l, xs, by simpa using h1, List.mem_cons_of_mem _ h2, h3⟩
  | _, _, _, 0, .dic _ _, e => by simp at e
  | _, _, _, 0, .dk _ _, e => by simp at e
  | _, _, _, 0, .tw _ _, e => by simp at e
  | _, _, _, i + 1, .dic _ s, e => by
    obtain ⟨l, xs, h1, h2, h3⟩ := Slots.getO (i := i) s (by simpa using e)
    exact ⟨l, xs, by simpa using h1, List.mem_cons_of_mem _ h2, h3⟩
  | _, _, _, i + 1, .dk _ s, e => by
    obtain ⟨l, xs, h1, h2, h3⟩ := Slots.getO (i := i) s (by simpa using e)
    exact ⟨l, xs, by simpa using h1, List.mem_cons_of_mem _ h2, h3⟩
  | _, _, _, i + 1, .tw _ s, e => by
    obtain ⟨l, xs, h1, h2, h3⟩ := Slots.getO (i := i) s (by simpa using e)
    exact ⟨l, xs, by simpa using h1, List.mem_cons_of_mem _ h2, h3⟩
theorem Slots.getD {kvs : List (D × D)} : ∀ {σ : List (Option V)} {ρ : List SD} {L : List Addr} {i : Nat}, Slots pr wd K O H σ ρ L → ρ[i]? = some (.dic kvs) → ∃ l, σ[i]? = some (some (.ref l)) ∧ l ∈ L ∧ NDict pr wd K O H l kvs
  | _, _, _, _, .nil, e => by simp at e
  | _, _, _, 0, .un _, e => by simp at e
  | _, _, _, i + 1, .un s, e => by simpa using Slots.getD (i := i) s (by simpa using e)
  | _, _, _, 0, .val _ _, e => by simp at e
  | _, _, _, i + 1, .val _ s, e => by simpa using Slots.getD (i := i) s (by simpa using e)
  | _, _, _, 0, .own _ _ _, e => by simp at e
  | _, _, _, i + 1, .own _ _ s, e => by
    obtain ⟨l, h1, h2, h3⟩ := Slots.getD (i := i) s (by simpa using e)
    exact ⟨l, by simpa using h1, List.mem_cons_of_mem _ h2, h3⟩
  | _, _, _, 0, .dic h _, e => by simp at e; subst e; exact ⟨_, rfl, List.mem_cons_self, h⟩
  | _, _, _, 0, .dk h _, e => by simp at e
  | _, _, _, 0, .tw h _, e => by simp at e
  | _, _, _, i + 1, .dic _ s, e => by
    obtain ⟨l, h1, h2, h3⟩ := Slots.getD (i := i) s (by simpa using e)
    exact ⟨l, by simpa using h1, List.mem_cons_of_mem _ h2, h3⟩
  | _, _, _, i + 1, .dk _ s, e => by
    obtain ⟨l, h1, h2, h3⟩ := Slots.getD (i := i) s (by simpa using e)
    exact ⟨l, by simpa using h1, List.mem_cons_of_mem _ h2, h3⟩
  | _, _, _, i + 1, .tw _ s, e => by
    obtain ⟨l, h1, h2, h3⟩ := Slots.getD (i := i) s (by simpa using e)
    exact ⟨l, by simpa using h1, List.mem_cons_of_mem _ h2, h3⟩
/-- a slot forgotten -/
theorem Slots.drop : ∀ {σ : List (Option V)} {ρ : List SD} {L : List Addr} (i : Nat), Slots pr wd K O H σ ρ L → ∃ L', Slots pr wd K O H σ (ρ.set i .un) L' ∧ L'.Sublist L
  | _, _, _, _, .nil => ⟨[], .nil, List.Sublist.refl _⟩
  | _, _, _, 0, .un s => ⟨_, .un s, List.Sublist.refl _⟩
  | _, _, _, 0, .val _ s => ⟨_, .un s, List.Sublist.refl _⟩
  | _, _, _, 0, .own _ _ s => ⟨_, .un s, List.sublist_cons_self _ _⟩
  | _, _, _, i + 1, .un s => by
    obtain ⟨L', h1, h2⟩ := Slots.drop i s
    exact ⟨L', .un h1, h2⟩
  | _, _, _, i + 1, .val h s => by
    obtain ⟨L', h1, h2⟩ := Slots.drop i s
    exact ⟨L', .val h h1, h2⟩
  | _, _, _, i + 1, .own h r s => by
    obtain ⟨L', h1, h2⟩ := Slots.drop i s
    exact ⟨_ :: L', .own h r h1, h2.cons_cons _⟩
  | _, _, _, 0, .dic _ s => ⟨_, .un s, List.sublist_cons_self _ _⟩
  | _, _, _, 0, .dk _ s => ⟨_, .un s, List.sublist_cons_self _ _⟩
  | _, _, _, 0, .tw _ s => ⟨_, .un s, List.sublist_cons_self _ _⟩
  | _, _, _, i + 1, .dic h s => by
    obtain ⟨L', h1, h2⟩ := Slots.drop i s
    exact ⟨_ :: L', .dic h h1, h2.cons_cons _⟩
  | _, _, _, i + 1, .dk h s => by
    obtain ⟨L', h1, h2⟩ := Slots.drop i s
    exact ⟨_ :: L', .dk h h1, h2.cons_cons _⟩
  | _, _, _, i + 1, .tw h s => by
    obtain ⟨L', h1, h2⟩ := Slots.drop i s
    exact ⟨_ :: L', .tw h h1, h2.cons_cons _⟩
theorem Slots.set {v : V} {d : D} (hv : Rp K (hid O H) v d) : ∀ {σ : List (Option V)} {ρ : List SD} {L : List Addr} (i : Nat), Slots pr wd K O H σ ρ L → ∃ L', Slots pr wd K O H (σ.set i (some v)) (ρ.set i (.val d)) L' ∧ L'.Sublist L
  | _, _, _, _, .nil => ⟨[], .nil, List.Sublist.refl _⟩
  | _, _, _, 0, .un s => ⟨_, .val hv s, List.Sublist.refl _⟩
  | _, _, _, 0, .val _ s => ⟨_, .val hv s, List.Sublist.refl _⟩
  | _, _, _, 0, .own _ _ s => ⟨_, .val hv s, List.sublist_cons_self _ _⟩
  | _, _, _, i + 1, .un s => by
    obtain ⟨L', h1, h2⟩ := Slots.set hv i s
    exact ⟨L', .un h1, h2⟩
  | _, _, _, i + 1, .val h s => by
    obtain ⟨L', h1, h2⟩ := Slots.set hv i s
    exact ⟨L', .val h h1, h2⟩
  | _, _, _, i + 1, .own h r s => by
    obtain ⟨L', h1, h2⟩ := Slots.set hv i s
    exact ⟨_ :: L', .own h r h1, h2.cons_cons _⟩
  | _, _, _, 0, .dic _ s => ⟨_, .val hv s, List.sublist_cons_self _ _⟩
  | _, _, _, 0, .dk _ s => ⟨_, .val hv s, List.sublist_cons_self _ _⟩
  | _, _, _, 0, .tw _ s => ⟨_, .val hv s, List.sublist_cons_self _ _⟩
  | _, _, _, i + 1, .dic h s => by
    obtain ⟨L', h1, h2⟩ := Slots.set hv i s
    exact ⟨_ :: L', .dic h h1, h2.cons_cons _⟩
  | _, _, _, i + 1, .dk h s => by
    obtain ⟨L', h1, h2⟩ := Slots.set hv i s
    exact ⟨_ :: L', .dk h h1, h2.cons_cons _⟩
  | _, _, _, i + 1, .tw h s => by
    obtain ⟨L', h1, h2⟩ := Slots.set hv i s
    exact ⟨_ :: L', .tw h h1, h2.cons_cons _⟩
theorem Slots.setO {l : Addr} {xs : List V} {ds : List D} (hl : H l = some (.lst xs)) (hx : RpAll K (hid O H) xs ds) (hn : l ∉ L) : ∀ {σ : List (Option V)} {ρ : List SD} {L : List Addr} (i : Nat), i < ρ.length → Slots pr wd K O H σ ρ L →
    ∃ L1 L2 L3, Slots pr wd K O H (σ.set i (some (.ref l))) (ρ.set i (.own ds)) (L1 ++ l :: L2) ∧ L = L1 ++ L3 ∧ L2.Sublist L3
  | _, _, _, _, h, .nil => by simp at h
  | _, _, L, 0, _, .un s => ⟨[], L, L, .own hl hx s, rfl, List.Sublist.refl _⟩
  | _, _, L, 0, _, .val _ s => ⟨[], L, L, .own hl hx s, rfl, List.Sublist.refl _⟩
  | _, _, _ :: L, 0, _, .own _ _ s => ⟨[], L, _, .own hl hx s, rfl, List.sublist_cons_self _ _⟩
  | _, _, _, i + 1, h, .un s => by
    obtain ⟨L1, L2, L3, h1, h2⟩ := Slots.setO hl hx hn i (by simpa using h) s
    exact ⟨L1, L2, L3, .un h1, h2⟩
  | _, _, _, i + 1, h, .val q s => by
    obtain ⟨L1, L2, L3, h1, h2⟩ := Slots.setO hl hx hn i (by simpa using h) s
    exact ⟨L1, L2, L3, .val q h1, h2⟩
  | _, _, _, i + 1, h, .own q r s => by
    obtain ⟨L1, L2, L3, h1, h2, h3⟩ := Slots.setO hl hx hn i (by simpa using h) s
    exact ⟨_ :: L1, L2, L3, .own q r h1, by rw [h2]; rfl, h3⟩
  | _, _, _ :: L, 0, _, .dic _ s => ⟨[], L, _, .own hl hx s, rfl, List.sublist_cons_self _ _⟩
  | _, _, _ :: L, 0, _, .dk _ s => ⟨[], L, _, .own hl hx s, rfl, List.sublist_cons_self _ _⟩
  | _, _, _ :: L, 0, _, .tw _ s => ⟨[], L, _, .own hl hx s, rfl, List.sublist_cons_self _ _⟩
  | _, _, _, i + 1, h, .dic q s => by
    obtain ⟨L1, L2, L3, h1, h2, h3⟩ := Slots.setO hl hx hn i (by simpa using h) s
    exact ⟨_ :: L1, L2, L3, .dic q h1, by rw [h2]; rfl, h3⟩
  | _, _, _, i + 1, h, .dk q s => by
    obtain ⟨L1, L2, L3, h1, h2, h3⟩ := Slots.setO hl hx hn i (by simpa using h) s
    exact ⟨_ :: L1, L2, L3, .dk q h1, by rw [h2]; rfl, h3⟩
  | _, _, _, i + 1, h, .tw q s => by
    obtain ⟨L1, L2, L3, h1, h2, h3⟩ := Slots.setO hl hx hn i (by simpa using h) s
    exact ⟨_ :: L1, L2, L3, .tw q h1, by rw [h2]; rfl, h3⟩
theorem Slots.setN {l : Addr} {kvs : List (D × D)} (hx : NDict pr wd K O H l kvs) (hn : l ∉ L) : ∀ {σ : List (Option V)} {ρ : List SD} {L : List Addr} (i : Nat), i < ρ.length → Slots pr wd K O H σ ρ L →
    ∃ L1 L2 L3, Slots pr wd K O H (σ.set i (some (.ref l))) (ρ.set i (.dic kvs)) (L1 ++ l :: L2) ∧ L = L1 ++ L3 ∧ L2.Sublist L3
  | _, _, _, _, h, .nil => by simp at h
  | _, _, L, 0, _, .un s => ⟨[], L, L, .dic hx s, rfl, List.Sublist.refl _⟩
  | _, _, L, 0, _, .val _ s => ⟨[], L, L, .dic hx s, rfl, List.Sublist.refl _⟩
  | _, _, _ :: L, 0, _, .own _ _ s => ⟨[], L, _, .dic hx s, rfl, List.sublist_cons_self _ _⟩
  | _, _, _ :: L, 0, _, .dic _ s => ⟨[], L, _, .dic hx s, rfl, List.sublist_cons_self _ _⟩
  | _, _, _ :: L, 0, _, .dk _ s => ⟨[], L, _, .dic hx s, rfl, List.sublist_cons_self _ _⟩
  | _, _, _ :: L, 0, _, .tw _ s => ⟨[], L, _, .dic hx s, rfl, List.sublist_cons_self _ _⟩
  | _, _, _, i + 1, h, .un s => by
    obtain ⟨L1, L2, L3, h1, h2⟩ := Slots.setN hx hn i (by simpa using h) s
    exact ⟨L1, L2, L3, .un h1, h2⟩
  | _, _, _, i + 1, h, .val q s => by
    obtain ⟨L1, L2, L3, h1, h2⟩ := Slots.setN hx hn i (by simpa using h) s
    exact ⟨L1, L2, L3, .val q h1, h2⟩
  | _, _, _, i + 1, h, .own q r s => by
    obtain ⟨L1, L2, L3, h1, h2, h3⟩ := Slots.setN hx hn i (by simpa using h) s
    exact ⟨_ :: L1, L2, L3, .own q r h1, by rw [h2]; rfl, h3⟩
  | _, _, _, i + 1, h, .dic q s => by
    obtain ⟨L1, L2, L3, h1, h2, h3⟩ := Slots.setN hx hn i (by simpa using h) s
    exact ⟨_ :: L1, L2, L3, .dic q h1, by rw [h2]; rfl, h3⟩
  | _, _, _, i + 1, h, .dk q s => by
    obtain ⟨L1, L2, L3, h1, h2, h3⟩ := Slots.setN hx hn i (by simpa using h) s
    exact ⟨_ :: L1, L2, L3, .dk q h1, by rw [h2]; rfl, h3⟩
  | _, _, _, i + 1, h, .tw q s => by
    obtain ⟨L1, L2, L3, h1, h2, h3⟩ := Slots.setN hx hn i (by simpa using h) s
    exact ⟨_ :: L1, L2, L3, .tw q h1, by rw [h2]; rfl, h3⟩
end

theorem Slots.lists {pr : Program} {wd : World} {K : PySem.W.Frag} {O : List Addr} {H : Hp} {σ : List (Option V)} {ρ : List SD} {L : List Addr} (s : Slots pr wd K O H σ ρ L) : ∀ l ∈ L, ∃ o, H l = some o := by
  induction s with
  | nil => intro l h; cases h
  | un _ ih => exact ih
  | val _ _ ih => exact ih
  | own h _ _ ih =>
    intro l hl
    rcases List.mem_cons.mp hl with e | e
    · subst e; exact ⟨_, h⟩
    · exact ih l e
  | dic h _ ih =>
    intro l hl
    rcases List.mem_cons.mp hl with e | e
    · subst e; obtain ⟨xs, h1, _⟩ := h; exact ⟨_, h1⟩
    · exact ih l e
  | dk h _ ih =>
    intro l hl
    rcases List.mem_cons.mp hl with e | e
    · subst e; obtain ⟨xs, h1, _⟩ := h; exact ⟨_, h1⟩
    · exact ih l e
  | tw h _ ih =>
    intro l hl
    rcases List.mem_cons.mp hl with e | e
    · subst e; obtain ⟨xs, _, _, _, h1, _⟩ := h; exact ⟨_, h1⟩
    · exact ih l e
section
variable {c : Ctx} {P : Hp} {L : List Addr} {n n' : Nat} {H H' : Hp} {σ : List (Option V)} {ρ : List SD}
theorem mem_B {b : Addr} : b ∈ c.B ↔ ∃ q, c.bag = some (b, q) := by
  unfold Ctx.B
  cases c.bag with
  | none => simp
  | some x =>
    obtain ⟨x1, x2⟩ := x
    simp [eq_comm]
theorem Env.inO (E : Env c P L n H σ ρ) {b : Addr} (h : b ∈ c.B) : b ∈ c.O := by
  obtain ⟨q, e⟩ := mem_B.mp h
  exact (E.bO b q e).1
theorem Env.notB (E : Env c P L n H σ ρ) {l : Addr} (h : l ∈ L) : l ∉ c.B := fun q => (E.fresh l h).2 (E.inO q)
theorem Env.BLO (E : Env c P L n H σ ρ) : ∀ a, a ∈ c.B → a ∈ L ++ c.O := fun a h => List.mem_append_right _ (E.inO h)
theorem Env.sameLO (E : Env c P L n H σ ρ) (e : Same (hid c.B H) (hid c.B H')) : Same (hid (L ++ c.O) H) (hid (L ++ c.O) H') := same_hid_more E.BLO e
theorem Env.own (E : Env c P L n H σ ρ) (e : Same (hid c.B H) (hid c.B H')) : ∀ l ∈ L, H' l = H l := fun l hl => by
  obtain ⟨xs, h⟩ := E.lst l hl
  rw [h]
  exact (hid_some.mp (e l _ (hid_some.mpr ⟨E.notB hl, h⟩))).2
/-- an expression's step -/
theorem Env.step (E : Env c P L n H σ ρ) (e : Same (hid c.B H) (hid c.B H')) (j : c.J n' H') : Env c P L n' H' σ ρ where
  nd := E.nd
  fresh := E.fresh
  slots := by
    obtain ⟨Ls, s, sub⟩ := E.slots
    exact ⟨Ls, s.move (fun l hl => E.own e l (sub.subset hl)) (E.sameLO e), sub⟩
  lst := fun l hl => by
    rw [E.own e l hl]
    exact E.lst l hl
  bag := j
  base := E.base.trans e
  pers := E.pers.trans (E.sameLO e)
  bO := E.bO
  al := fun o ho => by
    by_cases hb : o ∈ c.B
    · obtain ⟨q, hq⟩ := mem_B.mp hb
      obtain ⟨xs, h⟩ := (j o q hq).lst
      rw [h]; exact fun q => by cases q
    · cases h : H o with
      | none => exact absurd h (E.al o ho)
      | some u =>
        rw [(hid_some.mp (e o u (hid_some.mpr ⟨hb, h⟩))).2]
        exact fun q => by cases q
/-- where all stands and new things may have come -/
theorem Env.same (E : Env c P L n H σ ρ) (e : Same H H') : Same (hid c.B H) (hid c.B H') ∧ c.J n H' :=
  ⟨same_hid_of e, fun b q hb => (E.bag b q hb).move (fun o h => e b o h) fun o h => e q o h⟩
theorem Env.new (E : Env c P L n H σ ρ) {p : Addr} (h : H p = none) : c.H0 p = none ∧ p ∉ c.O ∧ p ∉ L := by
  have h1 : p ∉ c.O := fun q => E.al p q h
  refine ⟨?_, h1, fun q => ?_⟩
  · cases e : c.H0 p with
    | none => rfl
    | some u =>
      have := (hid_some.mp (E.base p u (hid_some.mpr ⟨fun q => h1 (E.inO q), e⟩))).2
      rw [h] at this; cases this
  · obtain ⟨xs, e⟩ := E.lst p q
    rw [h] at e; cases e
theorem Env.pers' (E : Env c P L n H σ ρ) : Env c (hid (L ++ c.O) H) L n H σ ρ := { E with pers := Same.refl _ }
theorem Env.persOf {P' : Hp} (E : Env c P L n H σ ρ) (h : Same P' P) : Env c P' L n H σ ρ := { E with pers := h.trans E.pers }
/-- other slots over the same or a smaller set of owned lists -/
theorem Env.reslot {L' : List Addr} {σ' : List (Option V)} {ρ' : List SD} (E : Env c P L n H σ ρ) (s : Slots c.pr c.wd c.K (L ++ c.O) H σ' ρ' L') (h : L'.Sublist L) : Env c P L n H σ' ρ' :=
  { E with slots := ⟨L', s, h⟩ }
end
end L3
/-! L3b: the judgements over data, and their rules. -/
namespace L3
open PySem L2

abbrev Ph := Nat → D → Prop
abbrev ER := List (Option V)
def WE (c : Ctx) (te : TE) (ρ : List SD) (n : Nat) (Φ : Nat → D → Prop) : Prop :=
  ∀ P L σ H Q, Env c P L n H σ ρ → (∀ v d n' H', Same (hid c.B H) (hid c.B H') → c.J n' H' → Rp c.K (hid (L ++ c.O) H') v d → Φ n' d → Q v H') → te σ H Q
def WT (c : Ctx) (tt : TT) (ρ : List SD) (n : Nat) (Φ : Nat → Bool → Prop) : Prop :=
  ∀ P L σ H Q, Env c P L n H σ ρ → (∀ b n' H', Same (hid c.B H) (hid c.B H') → c.J n' H' → Φ n' b → Q b H') → tt σ H Q
def WA (c : Ctx) (ta : TA) (ρ : List SD) (n : Nat) (Φ : Nat → List D → Prop) : Prop :=
  ∀ P L σ H Q, Env c P L n H σ ρ → (∀ vs ds n' H', Same (hid c.B H) (hid c.B H') → c.J n' H' → RpAll c.K (hid (L ++ c.O) H') vs ds → Φ n' ds → Q vs H') → ta σ H Q
/-- a part of a slice -/
def WO (c : Ctx) (to : TO) (ρ : List SD) (n : Nat) (Φ : Nat → Option Int → Prop) : Prop :=
  ∀ P L σ H Q, Env c P L n H σ ρ → (∀ o n' H', Same (hid c.B H) (hid c.B H') → c.J n' H' → Φ n' o → Q o H') → to σ H Q
/-- a new list -/
def WF (c : Ctx) (te : TE) (ρ : List SD) (n : Nat) (Φ : Nat → List D → Prop) : Prop :=
  ∀ P L σ H Q, Env c P L n H σ ρ → (∀ p xs ds n' H', Same (hid c.B H) (hid c.B H') → H p = none → H' p = some (.lst xs) → RpAll c.K (hid (p :: (L ++ c.O)) H') xs ds → c.J n' H' → Φ n' ds → Q (.ref p) H') → te σ H Q
structure Out where
  nx : Nat → List SD → Prop
  rt : Nat → D → Prop
  bk : Nat → List SD → Prop := fun _ _ => False
  ct : Nat → List SD → Prop := fun _ _ => False
structure Acc (c : Ctx) (P : Hp) (Ψ : Out) (Dn : Ends) : Prop where
  nx : ∀ L n H σ ρ, Env c P L n H σ ρ → Ψ.nx n ρ → Dn.nx σ H
  rt : ∀ v d n H, Same (hid c.B c.H0) (hid c.B H) → c.J n H → Rp c.K (hid c.O H) v d → Ψ.rt n d → Dn.rt v H
  bk : ∀ L n H σ ρ, Env c P L n H σ ρ → Ψ.bk n ρ → Dn.bk σ H
  ct : ∀ L n H σ ρ, Env c P L n H σ ρ → Ψ.ct n ρ → Dn.ct σ H
def WS (c : Ctx) (ts : TS) (ρ : List SD) (n : Nat) (Ψ : Out) : Prop :=
  ∀ P L σ H Dn, Env c P L n H σ ρ → Acc c P Ψ Dn → ts Dn σ H
def WG (c : Ctx) (R : ER → ER → Prop) (g : TG) (d : D) (ρ : List SD) (n : Nat) (Φ : List SD → Prop) : Prop :=
  ∀ P L σ H v Q, Env c P L n H σ ρ → Rp c.K (hid (L ++ c.O) H) v d → (∀ σ' ρ', Env c P L n H σ' ρ' → R σ σ' → Φ ρ' → Q σ' H) → g v σ H Q
def WGs (c : Ctx) (R : ER → ER → Prop) (g : TGs) (ds : List D) (ρ : List SD) (n : Nat) (Φ : List SD → Prop) : Prop :=
  ∀ P L σ H vs Q, Env c P L n H σ ρ → RpAll c.K (hid (L ++ c.O) H) vs ds → (∀ σ' ρ', Env c P L n H σ' ρ' → R σ σ' → Φ ρ' → Q σ' H) → g vs σ H Q
/-- a walk over these data -/
structure ItOk (c : Ctx) (J : It) (ds : List D) (P : Hp) : Prop where
  go : ∀ L n H σ ρ, Env c P L n H σ ρ → ∀ i d, ds[i]? = some d → J.go i H ∧ ∀ x H', J.yld i H x H' → Same H H' ∧ Rp c.K (hid (L ++ c.O) H') x d
  stop : ∀ L n H σ ρ, Env c P L n H σ ρ → ∀ i, ds.length ≤ i → J.stop i H
def WI (c : Ctx) (wi : TI) (ρ : List SD) (n : Nat) (Φ : Nat → List D → Prop) : Prop :=
  ∀ P L σ H R, Env c P L n H σ ρ → (∀ J ds n' H', Same (hid c.B H) (hid c.B H') → c.J n' H' → ItOk c J ds (hid (L ++ c.O) H') → Φ n' ds → R J H') → wi σ H R

section
variable {c : Ctx} {ρ : List SD} {n : Nat} {ta tb te : TE} {t u : TT} {as : TA} {Φ : Nat → D → Prop} {Ψ : Out} {ts us : TS}

/-! ### steps -/
theorem Env.up {P : Hp} {L : List Addr} {n n' : Nat} {H H' H2 : Hp} {σ : List (Option V)} {ρ : List SD} (E : Env c P L n H σ ρ) (e : Same (hid c.B H) (hid c.B H')) {v : V} {d : D} (h : Rp c.K (hid (L ++ c.O) H) v d) : Rp c.K (hid (L ++ c.O) H') v d := h.mono (E.sameLO e)
theorem Env.ups {P : Hp} {L : List Addr} {n n' : Nat} {H H' H2 : Hp} {σ : List (Option V)} {ρ : List SD} (E : Env c P L n H σ ρ) (e : Same (hid c.B H) (hid c.B H')) {v : List V} {d : List D} (h : RpAll c.K (hid (L ++ c.O) H) v d) : RpAll c.K (hid (L ++ c.O) H') v d := h.mono (E.sameLO e)

theorem Env.noO {P : Hp} {L : List Addr} {n : Nat} {H : Hp} {σ : List (Option V)} (E : Env c P L n H σ ρ) : ∀ p, H p = none → p ∉ L ++ c.O := fun p hp q => by
  have w := E.new hp
  rcases List.mem_append.mp q with q | q
  · exact w.2.2 q
  · exact w.2.1 q
/-! ### expressions -/
theorem we_var {i : Nat} {d : D} (h : ρ[i]? = some (.val d)) (k : Φ n d) : WE c (tVar i) ρ n Φ := fun P L σ H Q E q => by
  obtain ⟨Ls, sl, _⟩ := E.slots
  obtain ⟨v, h1, h2⟩ := sl.get h
  exact ⟨v, h1, q v d n H (Same.refl _) E.bag h2 k⟩
theorem we_int {i : Int} (k : Φ n (.int i)) : WE c (tC (.int i)) ρ n Φ := fun P L σ H Q E q => q _ _ n H (Same.refl _) E.bag (.int i) k
theorem we_str {x : Str} (k : Φ n (.str x)) : WE c (tC (.str x)) ρ n Φ := fun P L σ H Q E q => q _ _ n H (Same.refl _) E.bag (.str x) k
theorem we_bl {b : Bool} (k : Φ n (.bl b)) : WE c (tC (.bl b)) ρ n Φ := fun P L σ H Q E q => q _ _ n H (Same.refl _) E.bag (.bl b) k
theorem we_non (k : Φ n .non) : WE c (tC .non) ρ n Φ := fun P L σ H Q E q => q _ _ n H (Same.refl _) E.bag .non k
/-- two expressions in a row, then what is asked of their values -/
def R2D (K : PySem.W.Frag) (r : R2) (d e : D) (Φ : D → Prop) : Prop := ∀ (O : List Addr) (H : Hp) (x y : V) (Q : VK), Rp K (hid O H) x d → Rp K (hid O H) y e → (∀ p, H p = none → p ∉ O) → (∀ v f H', Same H H' → Rp K (hid O H') v f → Φ f → Q v H') → r x y H Q
theorem we_op {r : R2} (h : WE c ta ρ n fun n1 d => WE c tb ρ n1 fun n2 e => R2D c.K r d e (Φ n2)) : WE c (tOp r ta tb) ρ n Φ := fun P L σ H Q E q => by
  refine h P L σ H _ E fun x d n1 H1 s1 j1 r1 h1 => ?_
  refine h1 P L σ H1 _ (E.step s1 j1) fun y e n2 H2 s2 j2 r2 h2 => ?_
  have E2 := (E.step s1 j1).step s2 j2
  refine h2 (L ++ c.O) H2 x y Q ((E.step s1 j1).up (n' := 0) (H2 := H) s2 r1) r2 E2.noO fun v f H' s r k => ?_
  have z := E2.same s
  exact q v f n2 H' ((s1.trans s2).trans z.1) z.2 r k
theorem we_un {r : V → Hp → VK → Prop} (h : WE c ta ρ n fun n1 d => ∀ (O : List Addr) (H : Hp) (x : V) (Q : VK), Rp c.K (hid O H) x d → (∀ p, H p = none → p ∉ O) → (∀ v f H', Same H H' → Rp c.K (hid O H') v f → Φ n1 f → Q v H') → r x H Q) : WE c (tUn r ta) ρ n Φ := fun P L σ H Q E q => by
  refine h P L σ H _ E fun x d n1 H1 s1 j1 r1 h1 => ?_
  refine h1 (L ++ c.O) H1 x Q r1 (E.step s1 j1).noO fun v f H' s r k => ?_
  have z := (E.step s1 j1).same s
  exact q v f n1 H' (s1.trans z.1) z.2 r k
/-- an int operation -/
theorem r2_int {K : PySem.W.Frag} {C : Int → Int → Prop} {g : Int → Int → V} {h : Int → Int → D} (hg : ∀ (H : Hp) i j, Rp K H (g i j) (h i j)) {i j : Int} {Φ : D → Prop} (hc : C i j) (k : Φ (h i j)) : R2D K (rI C g) (.int i) (.int j) Φ := fun O H x y Q rx ry _ q => by
  cases rx
  cases ry
  exact ⟨i, j, rfl, rfl, hc, q _ _ H (Same.refl _) (hg _ i j) k⟩
theorem r2_int0 {K : PySem.W.Frag} {g : Int → Int → V} {h : Int → Int → D} (hg : ∀ (H : Hp) i j, Rp K H (g i j) (h i j)) {i j : Int} {Φ : D → Prop} (k : Φ (h i j)) : R2D K (rI0 g) (.int i) (.int j) Φ := fun O H x y Q rx ry _ q => by
  cases rx
  cases ry
  exact ⟨i, j, rfl, rfl, q _ _ H (Same.refl _) (hg _ i j) k⟩
theorem r2_eq {K : PySem.W.Frag} {d e : D} {b : Bool} {Φ : D → Prop} (hs : ∀ (H : Hp) x y, Rp K H x d → Rp K H y e → scal x y = true ∧ decide (x = y) = b) (k : Φ (.bl b)) : R2D K rEq d e Φ := fun O H x y Q rx ry _ q => by
  obtain ⟨h1, h2⟩ := hs _ x y rx ry
  exact ⟨h1, by rw [h2]; exact q _ _ H (Same.refl _) (.bl b) k⟩
theorem r2_ne {K : PySem.W.Frag} {d e : D} {b : Bool} {Φ : D → Prop} (hs : ∀ (H : Hp) x y, Rp K H x d → Rp K H y e → scal x y = true ∧ (!decide (x = y)) = b) (k : Φ (.bl b)) : R2D K rNe d e Φ := fun O H x y Q rx ry _ q => by
  obtain ⟨h1, h2⟩ := hs _ x y rx ry
  exact ⟨h1, by rw [h2]; exact q _ _ H (Same.refl _) (.bl b) k⟩
/-- a value as a test -/
theorem wt_B {Φ : Nat → Bool → Prop} (h : WE c te ρ n fun n1 d => ∃ b, d = .bl b ∧ Φ n1 b) : WT c (tB te) ρ n Φ := fun P L σ H Q E q => by
  refine h P L σ H _ E fun x d n1 H1 s1 j1 r1 ⟨b, e, k⟩ => ?_
  subst e
  cases r1
  exact ⟨b, rfl, q b n1 H1 s1 j1 k⟩
theorem wt_test {Φ : Nat → Bool → Prop} (h : WE c te ρ n fun n1 d => ∃ b, d = .bl b ∧ Φ n1 b) : WT c (tTest te) ρ n Φ := wt_B h
/-- truth -/
def tru : D → Option Bool
  | .non => some false
  | .bl b => some b
  | .int i => some (i != 0)
  | .str x => if x.length ≤ sizeLine then some ((x.length : Int) != 0) else none
  | .lst xs => some (!xs.isEmpty)
  | .tup xs => some (!xs.isEmpty)
  | _ => none
theorem tru_V {K : PySem.W.Frag} {H : Hp} {O : List Addr} {x : V} {d : D} {b : Bool} (r : Rp K (hid O H) x d) (h : tru d = some b) : TruV K x H b := by
  cases r with
  | non => exact (Option.some.inj h).symm
  | bl b => exact (Option.some.inj h).symm
  | int i => exact (Option.some.inj h).symm
  | str x =>
    by_cases hx : x.length ≤ sizeLine
    · have h' : (if x.length ≤ sizeLine then some ((x.length : Int) != 0) else none) = some b := h
      rw [if_pos hx] at h'
      exact ⟨hx, (Option.some.inj h').symm⟩
    · have h' : (if x.length ≤ sizeLine then some ((x.length : Int) != 0) else none) = some b := h
      rw [if_neg hx] at h'
      cases h'
  | lst hs ha =>
    refine .inl ⟨_, .inl (same_rd same_hid hs), ?_⟩
    rw [← Option.some.inj h]
    cases ha <;> rfl
  | tup hs ha =>
    refine .inr (.inl ⟨_, same_t same_hid hs, ?_⟩)
    rw [← Option.some.inj h]
    cases ha <;> rfl
  | obj h1 _ => cases h
  | adr a => cases h
  | ty n => cases h
  | dct _ _ => cases h
  | dcn _ _ _ => cases h
theorem wt_tru {Φ : Nat → Bool → Prop} (h : WE c te ρ n fun n1 d => ∃ b, tru d = some b ∧ Φ n1 b) : WT c (fun σ H Q => te σ H fun x H' => ∃ k, TruV c.K x H' k ∧ Q k H') ρ n Φ := fun P L σ H Q E q => by
  refine h P L σ H _ E fun x d n1 H1 s1 j1 r1 ⟨b, e, k⟩ => ?_
  exact ⟨b, tru_V r1 e, q b n1 H1 s1 j1 k⟩
theorem wt_and {Φ : Nat → Bool → Prop} (h : WT c t ρ n fun n1 b => if b = true then WT c u ρ n1 Φ else Φ n1 false) : WT c (tAnd t u) ρ n Φ := fun P L σ H Q E q => by
  refine h P L σ H _ E fun b n1 H1 s1 j1 k => ?_
  cases b with
  | true =>
    rw [if_pos rfl] at k
    show u σ H1 Q
    exact k P L σ H1 Q (E.step s1 j1) fun b n2 H2 s2 j2 k2 => q b n2 H2 (s1.trans s2) j2 k2
  | false =>
    rw [if_neg Bool.false_ne_true] at k
    exact q false n1 H1 s1 j1 k
theorem wt_or {Φ : Nat → Bool → Prop} (h : WT c t ρ n fun n1 b => if b = true then Φ n1 true else WT c u ρ n1 Φ) : WT c (tOr t u) ρ n Φ := fun P L σ H Q E q => by
  refine h P L σ H _ E fun b n1 H1 s1 j1 k => ?_
  cases b with
  | true =>
    rw [if_pos rfl] at k
    exact q true n1 H1 s1 j1 k
  | false =>
    rw [if_neg Bool.false_ne_true] at k
    show u σ H1 Q
    exact k P L σ H1 Q (E.step s1 j1) fun b n2 H2 s2 j2 k2 => q b n2 H2 (s1.trans s2) j2 k2
theorem wt_not {Φ : Nat → Bool → Prop} (h : WT c t ρ n fun n1 b => Φ n1 (!b)) : WT c (tNot t) ρ n Φ := fun P L σ H Q E q => h P L σ H _ E fun b n1 H1 s1 j1 k => q (!b) n1 H1 s1 j1 k
theorem wt_yes {Φ : Nat → Bool → Prop} (k : Φ n true) : WT c tYes ρ n Φ := fun P L σ H Q E q => q true n H (Same.refl _) E.bag k
theorem we_not (h : WE c ta ρ n fun n1 d => ∃ b, d = .bl b ∧ Φ n1 (.bl (!b))) : WE c (tNotV ta) ρ n Φ := fun P L σ H Q E q => by
  refine h P L σ H _ E fun x d n1 H1 s1 j1 r1 ⟨b, e, k⟩ => ?_
  subst e
  cases r1
  exact ⟨b, rfl, q _ _ n1 H1 s1 j1 (.bl _) k⟩
theorem we_and (h : WE c ta ρ n fun n1 d => ∃ b, d = .bl b ∧ if b = true then WE c tb ρ n1 Φ else Φ n1 (.bl false)) : WE c (tAndV ta tb) ρ n Φ := fun P L σ H Q E q => by
  refine h P L σ H _ E fun x d n1 H1 s1 j1 r1 ⟨b, e, k⟩ => ?_
  subst e
  cases r1
  refine ⟨b, rfl, ?_⟩
  cases b with
  | true =>
    rw [if_pos rfl] at k ⊢
    exact k P L σ H1 Q (E.step s1 j1) fun v d n2 H2 s2 j2 r2 k2 => q v d n2 H2 (s1.trans s2) j2 r2 k2
  | false =>
    rw [if_neg Bool.false_ne_true] at k ⊢
    exact q _ _ n1 H1 s1 j1 (.bl _) k
theorem we_or (h : WE c ta ρ n fun n1 d => ∃ b, d = .bl b ∧ if b = true then Φ n1 (.bl true) else WE c tb ρ n1 Φ) : WE c (tOrV ta tb) ρ n Φ := fun P L σ H Q E q => by
  refine h P L σ H _ E fun x d n1 H1 s1 j1 r1 ⟨b, e, k⟩ => ?_
  subst e
  cases r1
  refine ⟨b, rfl, ?_⟩
  cases b with
  | true =>
    rw [if_pos rfl] at k ⊢
    exact q _ _ n1 H1 s1 j1 (.bl _) k
  | false =>
    rw [if_neg Bool.false_ne_true] at k ⊢
    exact k P L σ H1 Q (E.step s1 j1) fun v d n2 H2 s2 j2 r2 k2 => q v d n2 H2 (s1.trans s2) j2 r2 k2
theorem we_if (h : WT c t ρ n fun n1 b => if b = true then WE c ta ρ n1 Φ else WE c tb ρ n1 Φ) : WE c (tIf t ta tb) ρ n Φ := fun P L σ H Q E q => by
  refine h P L σ H _ E fun b n1 H1 s1 j1 k => ?_
  cases b with
  | true =>
    rw [if_pos rfl] at k ⊢
    exact k P L σ H1 Q (E.step s1 j1) fun v d n2 H2 s2 j2 r2 k2 => q v d n2 H2 (s1.trans s2) j2 r2 k2
  | false =>
    rw [if_neg Bool.false_ne_true] at k ⊢
    exact k P L σ H1 Q (E.step s1 j1) fun v d n2 H2 s2 j2 r2 k2 => q v d n2 H2 (s1.trans s2) j2 r2 k2
/-- is None -/
def isNon : D → Bool
  | .non => true
  | _ => false
theorem isNon_V {K : PySem.W.Frag} {H : Hp} {x : V} {d : D} (r : Rp K H x d) : decide (x = .non) = isNon d := by
  cases r <;> first | rfl | exact decide_eq_false (fun e => by cases e)
theorem we_isN (h : WE c ta ρ n fun n1 d => Φ n1 (.bl (isNon d))) : WE c (tIsN ta) ρ n Φ := fun P L σ H Q E q => by
  refine h P L σ H _ E fun x d n1 H1 s1 j1 r1 k => ?_
  rw [isNon_V r1]
  exact q _ _ n1 H1 s1 j1 (.bl _) k
theorem we_notN (h : WE c ta ρ n fun n1 d => Φ n1 (.bl (!isNon d))) : WE c (tNotN ta) ρ n Φ := fun P L σ H Q E q => by
  refine h P L σ H _ E fun x d n1 H1 s1 j1 r1 k => ?_
  rw [isNon_V r1]
  exact q _ _ n1 H1 s1 j1 (.bl _) k

/-! ### arguments, displays -/
theorem wa_nil {Φ : Nat → List D → Prop} (k : Φ n []) : WA c tNil ρ n Φ := fun P L σ H Q E q => q [] [] n H (Same.refl _) E.bag .nil k
theorem wa_cons {Φ : Nat → List D → Prop} (h : WE c ta ρ n fun n1 d => WA c as ρ n1 fun n2 ds => Φ n2 (d :: ds)) : WA c (tCons ta as) ρ n Φ := fun P L σ H Q E q => by
  refine h P L σ H _ E fun x d n1 H1 s1 j1 r1 h1 => ?_
  have E1 := E.step s1 j1
  refine h1 P L σ H1 _ E1 fun vs ds n2 H2 s2 j2 r2 k => ?_
  exact q _ _ n2 H2 (s1.trans s2) j2 (.cons (E1.up (n' := 0) (H2 := H) s2 r1) r2) k
theorem Env.newT {P : Hp} {L : List Addr} {n : Nat} {H : Hp} {σ : List (Option V)} {p : Addr} {o : HO} (E : Env c P L n H σ ρ) (hp : H p = none) : Same (hid c.B H) (hid c.B (upd H p o)) ∧ c.J n (upd H p o) ∧ p ∉ L ++ c.O := by
  have z := E.same (same_upd_new (o := o) hp)
  have w := E.new hp
  exact ⟨z.1, z.2, fun q => by rcases List.mem_append.mp q with q | q; exact w.2.2 q; exact w.2.1 q⟩
theorem rp_upd {K : PySem.W.Frag} {O : List Addr} {H : Hp} {p : Addr} {o : HO} (hp : H p = none) : Same (hid O H) (hid O (upd H p o)) := same_hid_of (same_upd_new hp)
theorem hid_at {O : List Addr} {H : Hp} {p : Addr} {o : HO} (hp : p ∉ O) : hid O (upd H p o) p = some o := by rw [hid_out hp, upd_same]
theorem we_tup (h : WA c as ρ n fun n1 ds => ds.length ≤ sizeLine ∧ Φ n1 (.tup ds)) : WE c (tTup as) ρ n Φ := fun P L σ H Q E q => by
  refine h P L σ H _ E fun vs ds n1 H1 s1 j1 r1 ⟨hz, k⟩ => ?_
  refine ⟨by rw [r1.length]; exact hz, fun p hp => ?_⟩
  have z := (E.step s1 j1).newT (o := .tup vs) hp
  exact q _ _ n1 _ (s1.trans z.1) z.2.1 (.tup (.inl (.inl (hid_at z.2.2))) (r1.mono (rp_upd (K := c.K) hp))) k
theorem wf_lst {Φ : Nat → List D → Prop} (h : WA c as ρ n fun n1 ds => ds.length ≤ sizeLine ∧ Φ n1 ds) : WF c (tLst as) ρ n Φ := fun P L σ H Q E q => by
  refine h P L σ H _ E fun vs ds n1 H1 s1 j1 r1 ⟨hz, k⟩ => ?_
  refine ⟨by rw [r1.length]; exact hz, fun p hp => ?_⟩
  have E1 := E.step s1 j1
  refine q p vs ds n1 _ (s1.trans (E1.newT hp).1) ?_ upd_same (by rw [hid_new_in hp]; exact r1) (E1.newT hp).2.1 k
  cases e : H p with
  | none => rfl
  | some o =>
    by_cases hb : p ∈ c.B
    · exact absurd hp (E1.al p (E.inO hb))
    · rw [(hid_some.mp (s1 p o (hid_some.mpr ⟨hb, e⟩))).2] at hp
      cases hp
/-- a new list as a value -/
theorem wf_we (h : WF c te ρ n fun n1 ds => Φ n1 (.lst ds)) : WE c te ρ n Φ := fun P L σ H Q E q => by
  refine h P L σ H _ E fun p xs ds n1 H1 s1 hp h1 r1 j1 k => ?_
  have w := E.new hp
  have nin : p ∉ L ++ c.O := fun q => by rcases List.mem_append.mp q with q | q; exact w.2.2 q; exact w.2.1 q
  have sub : Same (hid (p :: (L ++ c.O)) H1) (hid (L ++ c.O) H1) := same_hid_sub fun a ha => List.mem_cons_of_mem _ ha
  exact q _ _ n1 H1 s1 j1 (.lst (.inl (by rw [hid_out nin]; exact h1)) (r1.mono sub)) k
theorem we_lst (h : WA c as ρ n fun n1 ds => ds.length ≤ sizeLine ∧ Φ n1 (.lst ds)) : WE c (tLst as) ρ n Φ := wf_we (wf_lst h)

/-! ### calls -/
/-- what a call of values asks, over data -/
def RCD (K : PySem.W.Frag) (r : List V → Hp → VK → Prop) (ds : List D) (Φ : D → Prop) : Prop := ∀ (O : List Addr) (H : Hp) (xs : List V) (Q : VK), RpAll K (hid O H) xs ds → (∀ p, H p = none → p ∉ O) → (∀ v f H', Same H H' → Rp K (hid O H') v f → Φ f → Q v H') → r xs H Q
theorem we_cb {r : List V → Hp → VK → Prop} (h : WA c as ρ n fun n1 ds => RCD c.K r ds (Φ n1)) : WE c (tCB r as) ρ n Φ := fun P L σ H Q E q => by
  refine h P L σ H _ E fun vs ds n1 H1 s1 j1 r1 k => ?_
  have E1 := E.step s1 j1
  refine k (L ++ c.O) H1 vs Q r1 E1.noO fun v f H' s r k => ?_
  have z := E1.same s
  exact q v f n1 H' (s1.trans z.1) z.2 r k
/-- what a def promises, over data: S of the bag, the turns, the arguments, what is wanted -/
abbrev Spec := Option (Addr × Addr) → Nat → List D → (Nat → D → Prop) → Prop
def spD (K : PySem.W.Frag) (S : Spec) : Sp := fun vs H Q _ => ∃ (O : List Addr) (bag : Option (Addr × Addr)) (n : Nat) (ds : List D) (Φ : Nat → D → Prop),
  (∀ b q, bag = some (b, q) → BagOk b q n H ∧ b ∈ O ∧ q ∈ O ∧ q ≠ b) ∧ (∀ o ∈ O, H o ≠ none) ∧ RpAll K (hid O H) vs ds ∧ S bag n ds Φ ∧
  ∀ v d n' H', Same (hid (bag.map (·.1)).toList H) (hid (bag.map (·.1)).toList H') → (∀ b q, bag = some (b, q) → BagOk b q n' H') → Rp K (hid O H') v d → Φ n' d → Q v H'
theorem Env.alLO {P : Hp} {L : List Addr} {n : Nat} {H : Hp} {σ : List (Option V)} (E : Env c P L n H σ ρ) : ∀ o ∈ L ++ c.O, H o ≠ none := fun o ho => by
  rcases List.mem_append.mp ho with q | q
  · obtain ⟨xs, h⟩ := E.lst o q
    rw [h]; exact fun q => by cases q
  · exact E.al o q
/-- the defaults' data -/
theorem we_call {S : Spec} {dvs : List V} {dds : List D} {XE : XK} (hd : ∀ H, RpAll c.K H dvs dds) (h : WA c as ρ n fun n1 ds => S c.bag n1 (ds ++ dds) Φ) : WE c (tCall (spD c.K S) dvs XE as) ρ n Φ := fun P L σ H Q E q => by
  refine h P L σ H _ E fun vs ds n1 H1 s1 j1 r1 k => ?_
  have E1 := E.step s1 j1
  refine ⟨L ++ c.O, c.bag, n1, ds ++ dds, Φ, fun b q hb => ⟨j1 b q hb, List.mem_append_right _ (E.bO b q hb).1, List.mem_append_right _ (E.bO b q hb).2.1, (E.bO b q hb).2.2⟩, E1.alLO, r1.append (hd _), k, fun v d n2 H2 s2 j2 r2 k2 => ?_⟩
  exact q v d n2 H2 (s1.trans s2) j2 r2 k2
theorem we_call0 {S : Spec} {XE : XK} (h : WA c as ρ n fun n1 ds => S c.bag n1 ds Φ) : WE c (tCall (spD c.K S) [] XE as) ρ n Φ := we_call (dds := []) (fun _ => .nil) fun P L σ H Q E q => h P L σ H Q E fun vs ds n1 H1 s1 j1 r1 k => q vs ds n1 H1 s1 j1 r1 (by show S c.bag n1 (ds ++ []) Φ; rw [List.append_nil]; exact k)

/-! ### statements -/
theorem ws_seq (h : WS c ts ρ n { Ψ with nx := fun n1 ρ1 => WS c us ρ1 n1 Ψ }) : WS c (tSeq ts us) ρ n Ψ := fun P L σ H Dn E A =>
  h P L σ H _ E { nx := fun L' n1 H1 σ1 ρ1 E1 k => k P L' σ1 H1 Dn E1 A, rt := A.rt, bk := A.bk, ct := A.ct }
theorem ws_next (k : Ψ.nx n ρ) : WS c tNext ρ n Ψ := fun P L σ H Dn E A => A.nx L n H σ ρ E k
theorem ws_brk (k : Ψ.bk n ρ) : WS c tBreak ρ n Ψ := fun P L σ H Dn E A => A.bk L n H σ ρ E k
theorem ws_cont (k : Ψ.ct n ρ) : WS c tCont ρ n Ψ := fun P L σ H Dn E A => A.ct L n H σ ρ E k
theorem Env.set {P : Hp} {L : List Addr} {n : Nat} {H : Hp} {σ : List (Option V)} (E : Env c P L n H σ ρ) {v : V} {d : D} (i : Nat) (h : Rp c.K (hid (L ++ c.O) H) v d) : Env c P L n H (σ.set i (some v)) (ρ.set i (.val d)) := by
  obtain ⟨Ls, sl, sb⟩ := E.slots
  obtain ⟨L', s, sub⟩ := sl.set h i
  exact E.reslot s (sub.trans sb)
theorem ws_set {i : Nat} (h : WE c te ρ n fun n1 d => Ψ.nx n1 (ρ.set i (.val d))) : WS c (tAsg te (gName i)) ρ n Ψ := fun P L σ H Dn E A => by
  refine h P L σ H _ E fun v d n1 H1 s1 j1 r1 k => ?_
  exact A.nx L n1 H1 _ _ ((E.step s1 j1).set i r1) k
theorem ws_asg {g : TG} (h : WE c te ρ n fun n1 d => WG c (fun _ _ => True) g d ρ n1 fun ρ1 => Ψ.nx n1 ρ1) : WS c (tAsg te g) ρ n Ψ := fun P L σ H Dn E A => by
  refine h P L σ H _ E fun v d n1 H1 s1 j1 r1 k => ?_
  exact k P L σ H1 v _ (E.step s1 j1) r1 fun σ' ρ' E' _ k => A.nx L n1 H1 σ' ρ' E' k
theorem ins_sub {α : Type} {p : α} : ∀ {L1 L2 L : List α}, (L1 ++ L2).Sublist L → ∃ Lp : List α, (L1 ++ p :: L2).Sublist Lp ∧ Lp.Perm (p :: L)
  | [], L2, L, h => ⟨p :: L, h.cons_cons p, List.Perm.refl _⟩
  | a :: L1, L2, L, h => by
    generalize e : a :: L1 ++ L2 = M at h
    induction h with
    | slnil => cases e
    | @cons l1 l2 b s ih =>
      obtain ⟨Lp, h1, h2⟩ := ih e
      exact ⟨b :: Lp, h1.cons b, (h2.cons b).trans (List.Perm.swap p b l2)⟩
    | @cons_cons l1 l2 b s ih =>
      have e' : a = b ∧ L1 ++ L2 = l1 := by simpa using e
      obtain ⟨e1, e2⟩ := e'
      subst e1; subst e2
      obtain ⟨Lp, h1, h2⟩ := ins_sub s
      exact ⟨a :: Lp, h1.cons_cons a, (h2.cons a).trans (List.Perm.swap p a l2)⟩
/-- a new list that is to be changed -/
theorem ws_own {i : Nat} (hi : i < ρ.length) (h : WF c te ρ n fun n1 ds => Ψ.nx n1 (ρ.set i (.own ds))) : WS c (tAsg te (gName i)) ρ n Ψ := fun P L σ H Dn E A => by
  refine h P L σ H _ E fun p xs ds n1 H1 s1 hp h1 r1 j1 k => ?_
  have w := E.new hp
  have nin : p ∉ L ++ c.O := E.noO p hp
  have E1 := E.step s1 j1
  have hs : Same (hid (L ++ c.O) H) (hid (p :: (L ++ c.O)) H1) := fun a o q => by
    obtain ⟨q1, q2⟩ := hid_some.mp q
    have q3 := (hid_some.mp (E.sameLO s1 a o q)).2
    refine hid_some.mpr ⟨fun z => ?_, q3⟩
    rcases List.mem_cons.mp z with z | z
    · subst z; rw [hp] at q2; cases q2
    · exact q1 z
  obtain ⟨Ls, sl0, sb⟩ := E.slots
  have sl : Slots c.pr c.wd c.K (p :: (L ++ c.O)) H1 σ ρ Ls := sl0.move (fun l hl => E.own s1 l (sb.subset hl)) hs
  obtain ⟨L1, L2, L3, sl2, eL, sub⟩ := Slots.setO h1 r1 (fun q => w.2.2 (sb.subset q)) i hi sl
  have e0 : p :: (L ++ c.O) = (p :: L) ++ c.O := rfl
  -- the slots' lists within p :: L: by a permutation's place
  have mv : ∃ Lp : List Addr, (L1 ++ p :: L2).Sublist Lp ∧ Lp.Perm (p :: L) := by
    rw [eL] at sb
    have h5 : (L1 ++ L2).Sublist L := (List.Sublist.append_left sub L1).trans sb
    exact ins_sub h5
  obtain ⟨Lp, sLp, pLp⟩ := mv
  have mem : ∀ a, a ∈ Lp ++ c.O ↔ a ∈ p :: (L ++ c.O) := fun a => by
    rw [e0, List.mem_append, List.mem_append, pLp.mem_iff]
  refine A.nx Lp n1 H1 _ _ ?_ k
  exact { nd := pLp.nodup_iff.mpr (List.nodup_cons.mpr ⟨w.2.2, E.nd⟩),
          fresh := fun l hl => by
            rcases List.mem_cons.mp (pLp.mem_iff.mp hl) with q | q
            · subst q; exact ⟨w.1, w.2.1⟩
            · exact E.fresh l q,
          slots := ⟨_, sl2.move (fun _ _ => rfl) (same_hid_sub fun a ha => (mem a).mp ha), sLp⟩,
          lst := fun l hl => by
            rcases List.mem_cons.mp (pLp.mem_iff.mp hl) with q | q
            · subst q; exact ⟨_, h1⟩
            · exact E1.lst l q,
          bag := j1,
          base := E1.base,
          pers := (E.pers.trans hs).trans (same_hid_sub fun a ha => (mem a).mp ha),
          bO := E.bO, al := E1.al }
theorem Slots.freeze {pr : Program} {wd : World} {K : PySem.W.Frag} {O : List Addr} {H : Hp} {ds : List D} : ∀ {σ : List (Option V)} {ρ : List SD} {L : List Addr} {i : Nat}, Slots pr wd K O H σ ρ L → ρ[i]? = some (.own ds) → ∃ L1 l L2 xs, L = L1 ++ l :: L2 ∧ H l = some (.lst xs) ∧ RpAll K (hid O H) xs ds ∧
    ∀ O' , Same (hid O H) (hid O' H) → l ∉ O' → Slots pr wd K O' H σ (ρ.set i (.val (.lst ds))) (L1 ++ L2)
  | _, _, _, _, .nil, e => by simp at e
  | _, _, _, 0, .un _, e => by simp at e
  | _, _, _, i + 1, .un s, e => by
    obtain ⟨L1, l, L2, xs, h1, h2, h3, h4⟩ := Slots.freeze (i := i) s (by simpa using e)
    exact ⟨L1, l, L2, xs, h1, h2, h3, fun O' a b => .un (h4 O' a b)⟩
  | _, _, _, 0, .val _ _, e => by simp at e
  | _, _, _, i + 1, .val r s, e => by
    obtain ⟨L1, l, L2, xs, h1, h2, h3, h4⟩ := Slots.freeze (i := i) s (by simpa using e)
    exact ⟨L1, l, L2, xs, h1, h2, h3, fun O' a b => .val (r.mono a) (h4 O' a b)⟩
  | _, _, _, 0, .own h r s, e => by
    simp at e
    subst e
    exact ⟨[], _, _, _, rfl, h, r, fun O' a b => .val (.lst (.inl (by rw [hid_out b]; exact h)) (r.mono a)) (s.move (fun _ _ => rfl) a)⟩
  | _, _, _, i + 1, .own h r s, e => by
    obtain ⟨L1, l, L2, xs, h1, h2, h3, h4⟩ := Slots.freeze (i := i) s (by simpa using e)
    exact ⟨_ :: L1, l, L2, xs, by rw [h1]; rfl, h2, h3, fun O' a b => .own h (r.mono a) (h4 O' a b)⟩
  | _, _, _, 0, .dic _ _, e => by simp at e
  | _, _, _, 0, .dk _ _, e => by simp at e
  | _, _, _, 0, .tw _ _, e => by simp at e
  | _, _, _, i + 1, .dic h s, e => by
    obtain ⟨L1, l, L2, xs, h1, h2, h3, h4⟩ := Slots.freeze (i := i) s (by simpa using e)
    exact ⟨_ :: L1, l, L2, xs, by rw [h1]; rfl, h2, h3, fun O' a b => .dic (h.move rfl a) (h4 O' a b)⟩
  | _, _, _, i + 1, .dk h s, e => by
    obtain ⟨L1, l, L2, xs, h1, h2, h3, h4⟩ := Slots.freeze (i := i) s (by simpa using e)
    exact ⟨_ :: L1, l, L2, xs, by rw [h1]; rfl, h2, h3, fun O' a b => .dk (h.move rfl a) (h4 O' a b)⟩
  | _, _, _, i + 1, .tw h s, e => by
    obtain ⟨L1, l, L2, xs, h1, h2, h3, h4⟩ := Slots.freeze (i := i) s (by simpa using e)
    exact ⟨_ :: L1, l, L2, xs, by rw [h1]; rfl, h2, h3, fun O' a b => .tw (h.move rfl a) (h4 O' a b)⟩
theorem Env.freeze {P : Hp} {L : List Addr} {n : Nat} {H : Hp} {σ : List (Option V)} {i : Nat} {ds : List D} (E : Env c P L n H σ ρ) (h : ρ[i]? = some (.own ds)) : ∃ L', Env c P L' n H σ (ρ.set i (.val (.lst ds))) ∧ L'.Sublist L := by
  obtain ⟨Ls, sl, sb⟩ := E.slots
  obtain ⟨L1, l, L2, xs, h1, h2, h3, h4⟩ := sl.freeze h
  have lL : l ∈ L := sb.subset (by rw [h1]; simp)
  have sub : (L.erase l).Sublist L := List.erase_sublist
  have nl : l ∉ L.erase l := E.nd.not_mem_erase
  have sb2 : (L1 ++ L2).Sublist (L.erase l) := by
    have nd := sb.nodup E.nd
    rw [h1] at nd
    have n1 : l ∉ L1 := fun q => by
      have := (List.nodup_append.mp nd).2.2 l q l List.mem_cons_self
      exact this rfl
    have q : (Ls.erase l).Sublist (L.erase l) := sb.erase l
    rw [h1, List.erase_append_right _ n1, List.erase_cons_head] at q
    exact q
  have nO : l ∉ (L.erase l) ++ c.O := fun q => by
    rcases List.mem_append.mp q with q | q
    · exact nl q
    · exact (E.fresh l lL).2 q
  have se : Same (hid (L ++ c.O) H) (hid ((L.erase l) ++ c.O) H) := same_hid_sub fun a ha => by
    rcases List.mem_append.mp ha with q | q
    · exact List.mem_append_left _ (sub.subset q)
    · exact List.mem_append_right _ q
  exact ⟨L.erase l, { nd := sub.nodup E.nd, fresh := fun l hl => E.fresh l (sub.subset hl), slots := ⟨_, h4 _ se nO, sb2⟩, lst := fun l hl => E.lst l (sub.subset hl), base := E.base, pers := E.pers.trans se, bO := E.bO, al := E.al, bag := E.bag }, sub⟩
/-- an own list is handed on, no more changed -/
theorem ws_freeze (i : Nat) {ds : List D} (h : ρ[i]? = some (.own ds)) (k : WS c ts (ρ.set i (.val (.lst ds))) n Ψ) : WS c ts ρ n Ψ := fun P L σ H Dn E A => by
  obtain ⟨L', E', _⟩ := E.freeze h
  exact k P L' σ H Dn E' A
/-- an own list looked at; a scalar comes out -/
def scalar : D → Bool
  | .non => true
  | .bl _ => true
  | .int _ => true
  | .str _ => true
  | _ => false
theorem Rp.scal {K : PySem.W.Frag} {H H' : Hp} {v : V} {d : D} (r : Rp K H v d) (h : scalar d = true) : Rp K H' v d := by
  cases r with
  | non => exact .non
  | bl b => exact .bl b
  | int i => exact .int i
  | str x => exact .str x
  | _ => cases h
theorem wt_look (i : Nat) {Φ : Nat → Bool → Prop} {ds : List D} (h : ρ[i]? = some (.own ds)) (k : WT c t (ρ.set i (.val (.lst ds))) n Φ) : WT c t ρ n Φ := fun P L σ H Q E q => by
  obtain ⟨L', E', sub⟩ := E.freeze h
  exact k P L' σ H Q E' fun b n1 H1 s1 j1 k1 => q b n1 H1 s1 j1 k1
theorem we_look (i : Nat) {ds : List D} (h : ρ[i]? = some (.own ds)) (k : WE c te (ρ.set i (.val (.lst ds))) n fun n1 d => scalar d = true ∧ Φ n1 d) : WE c te ρ n Φ := fun P L σ H Q E q => by
  obtain ⟨L', E', sub⟩ := E.freeze h
  exact k P L' σ H Q E' fun v d n1 H1 s1 j1 r1 ⟨hs, k1⟩ => q v d n1 H1 s1 j1 (r1.scal hs) k1
theorem ws_ret (h : WE c te ρ n Ψ.rt) : WS c (tRet te) ρ n Ψ := fun P L σ H Dn E A => by
  refine h P L σ H _ E fun v d n1 H1 s1 j1 r1 k => ?_
  have E1 := E.step s1 j1
  have se : Same (hid (L ++ c.O) H1) (hid c.O H1) := same_hid_sub fun a ha => List.mem_append_right _ ha
  exact A.rt v d n1 H1 E1.base j1 (r1.mono se) k
theorem ws_retN (k : Ψ.rt n .non) : WS c tRetN ρ n Ψ := fun P L σ H Dn E A => by
  have se : Same (hid (L ++ c.O) H) (hid c.O H) := same_hid_sub fun a ha => List.mem_append_right _ ha
  exact A.rt .non .non n H E.base E.bag .non k
theorem ws_if (h : WT c t ρ n fun n1 b => if b = true then WS c ts ρ n1 Ψ else WS c us ρ n1 Ψ) : WS c (tIfS t ts us) ρ n Ψ := fun P L σ H Dn E A => by
  refine h P L σ H _ E fun b n1 H1 s1 j1 k => ?_
  cases b with
  | true =>
    rw [if_pos rfl] at k ⊢
    exact k P L σ H1 Dn (E.step s1 j1) A
  | false =>
    rw [if_neg Bool.false_ne_true] at k ⊢
    exact k P L σ H1 Dn (E.step s1 j1) A
theorem ws_drop (h : WE c te ρ n fun n1 _ => Ψ.nx n1 ρ) : WS c (tDrop te) ρ n Ψ := fun P L σ H Dn E A => by
  refine h P L σ H _ E fun v d n1 H1 s1 j1 r1 k => ?_
  exact A.nx L n1 H1 σ ρ (E.step s1 j1) k
theorem ws_never (h : False) : WS c ts ρ n Ψ := h.elim
theorem WS.mono {Ψ' : Out} (h : WS c ts ρ n Ψ) (h1 : ∀ n ρ, Ψ.nx n ρ → Ψ'.nx n ρ) (h2 : ∀ n d, Ψ.rt n d → Ψ'.rt n d) (h3 : ∀ n ρ, Ψ.bk n ρ → Ψ'.bk n ρ) (h4 : ∀ n ρ, Ψ.ct n ρ → Ψ'.ct n ρ) : WS c ts ρ n Ψ' := fun P L σ H Dn E A =>
  h P L σ H Dn E { nx := fun L n H σ ρ E k => A.nx L n H σ ρ E (h1 _ _ k), rt := fun v d n H s j r k => A.rt v d n H s j r (h2 _ _ k), bk := fun L n H σ ρ E k => A.bk L n H σ ρ E (h3 _ _ k), ct := fun L n H σ ρ E k => A.ct L n H σ ρ E (h4 _ _ k) }
theorem WE.mono {Φ' : Nat → D → Prop} (h : WE c te ρ n Φ) (k : ∀ n d, Φ n d → Φ' n d) : WE c te ρ n Φ' := fun P L σ H Q E q => h P L σ H Q E fun v d n1 H1 s1 j1 r1 p => q v d n1 H1 s1 j1 r1 (k _ _ p)
theorem WT.mono {Φ Φ' : Nat → Bool → Prop} (h : WT c t ρ n Φ) (k : ∀ n d, Φ n d → Φ' n d) : WT c t ρ n Φ' := fun P L σ H Q E q => h P L σ H Q E fun v n1 H1 s1 j1 p => q v n1 H1 s1 j1 (k _ _ p)

/-! ### targets -/
theorem wg_name {R : ER → ER → Prop} {i : Nat} {d : D} {Φ : List SD → Prop} (hR : ∀ σ v, R σ (σ.set i (some v))) (k : Φ (ρ.set i (.val d))) : WG c R (gName i) d ρ n Φ := fun P L σ H v Q E r q =>
  q _ _ (E.set i r) (hR σ v) k
theorem wgs_nil {R : ER → ER → Prop} {Φ : List SD → Prop} (hR : ∀ σ, R σ σ) (k : Φ ρ) : WGs c R gNil [] ρ n Φ := fun P L σ H vs Q E r q => by
  cases r
  exact ⟨rfl, q σ ρ E (hR σ) k⟩
theorem wgs_cons {R : ER → ER → Prop} {g : TG} {gs : TGs} {d : D} {ds : List D} {Φ : List SD → Prop} (hR : ∀ a b e, R a b → R b e → R a e) (h : WG c R g d ρ n fun ρ1 => WGs c R gs ds ρ1 n Φ) : WGs c R (gCons g gs) (d :: ds) ρ n Φ := fun P L σ H vs Q E r q => by
  cases r with
  | cons r1 r2 =>
    refine ⟨_, _, rfl, ?_⟩
    refine h P L σ H _ _ E r1 fun σ' ρ' E' hR1 k => ?_
    exact k P L σ' H _ _ E' r2 fun σ2 ρ2 E2 hR2 k2 => q σ2 ρ2 E2 (hR _ _ _ hR1 hR2) k2
theorem wg_tup {R : ER → ER → Prop} {m : Nat} {gs : TGs} {ds : List D} {Φ : List SD → Prop} (hl : ds.length = m) (h : WGs c R gs ds ρ n Φ) : WG c R (gTup c.K m gs) (.tup ds) ρ n Φ := fun P L σ H v Q E r q => by
  cases r with
  | tup hs ha =>
    exact ⟨_, _, rfl, same_t same_hid hs, by rw [ha.length]; exact hl, h P L σ H _ Q E ha q⟩

/-! ### loops -/
theorem ws_for {wi : TI} {g : TG} (h : WI c wi ρ n fun n1 ds => ∃ I : Nat → Nat → List SD → Prop, I 0 n1 ρ ∧
    (∀ k m ρ1 d, ds[k]? = some d → I k m ρ1 → WG c (fun _ _ => True) g d ρ1 m fun ρ2 => WS c ts ρ2 m { nx := I (k + 1), ct := I (k + 1), bk := Ψ.nx, rt := Ψ.rt }) ∧ (∀ m ρ1, I ds.length m ρ1 → Ψ.nx m ρ1)) : WS c (tFor wi g ts) ρ n Ψ := fun P L σ H Dn E A => by
  refine h P L σ H _ E fun J ds n1 H1 s1 j1 it ⟨I, h0, hs, hd⟩ => ?_
  have E1 := (E.step s1 j1).pers'
  have pp : Same P (hid (L ++ c.O) H1) := (E.step s1 j1).pers
  have A' : Acc c (hid (L ++ c.O) H1) Ψ Dn := { nx := fun L n H σ ρ E k => A.nx L n H σ ρ (E.persOf pp) k, rt := A.rt, bk := fun L n H σ ρ E k => A.bk L n H σ ρ (E.persOf pp) k, ct := fun L n H σ ρ E k => A.ct L n H σ ρ (E.persOf pp) k }
  refine ⟨fun i m σ H => m + i = ds.length ∧ ∃ L' n' ρ', Env c (hid (L ++ c.O) H1) L' n' H σ ρ' ∧ I i n' ρ', ⟨ds.length, rfl, L, n1, ρ, E1, h0⟩, ?_⟩
  rintro i m σ' H' ⟨hm, L', n', ρ', E', hI⟩
  by_cases hi : i < ds.length
  · right
    have hg : ds[i]? = some ds[i] := List.getElem?_eq_getElem hi
    obtain ⟨go, yl⟩ := it.go L' n' H' σ' ρ' E' i _ hg
    refine ⟨go, fun σ2 H2 => ∃ L2 n2 ρ2, Env c (hid (L ++ c.O) H1) L2 n2 H2 σ2 ρ2 ∧ I (i + 1) n2 ρ2, ?_, ?_⟩
    · rintro σ2 H2 ⟨L2, n2, ρ2, E2, hI2⟩
      exact ⟨m - 1, by omega, by omega, L2, n2, ρ2, E2, hI2⟩
    · intro x H2 hy
      obtain ⟨sm, rx⟩ := yl x H2 hy
      have z := E'.same sm
      refine hs i n' ρ' _ hg hI _ L' σ' H2 x _ (E'.step z.1 z.2) rx fun σ3 ρ3 E3 _ k3 => ?_
      exact k3 _ L' σ3 H2 _ E3 { nx := fun L n H σ ρ E k => ⟨L, n, ρ, E, k⟩, rt := A.rt, bk := fun L n H σ ρ E k => A'.nx L n H σ ρ E k, ct := fun L n H σ ρ E k => ⟨L, n, ρ, E, k⟩ }
  · left
    have e : i = ds.length := by omega
    subst e
    exact ⟨it.stop L' n' H' σ' ρ' E' _ (Nat.le_refl _), A'.nx L' n' H' σ' ρ' E' (hd n' ρ' hI)⟩
end
end L3
/-! L3c: walks, comprehensions, operations. -/
namespace L3
open PySem L2

/-! ### walks -/
def signs (z : Str) : List D := z.cps.toList.map fun c => D.str ⟨#[c]⟩
def items : D → Option (List D)
  | .lst xs => some xs
  | .tup xs => some xs
  | .str z => some (signs z)
  | _ => none
def iSeq (K : PySem.W.Frag) (tl : TE) : TI := fun σ H R => tl σ H fun x H1 => (∃ a, x = .ref a ∧ (((∃ xs, SqL K H1 a xs) ∧ R (Itl K a) H1) ∨ ((∃ xs, SqT K H1 a xs) ∧ R (Itt K a) H1)))
theorem pi_seq {X : Cx} {tg l : Expr} {tl : TE} (hl : PE X l tl) : PI X tg l (iSeq X.K tl) := by
  refine ⟨fun pins s σ H R I h => ?_⟩
  refine thn (hl.run pins s σ H _ I h) fun v s1 ⟨x, H1, I1, r1, q1⟩ => ?_
  obtain ⟨a, e, ⟨⟨xs, hq⟩, q⟩ | ⟨⟨xs, hq⟩, q⟩⟩ := q1
  · subst e
    cases r1
    obtain ⟨its, rv, p, hz⟩ := I1.list hq
    refine wpAny_pyIter_list p.isList ?_
    refine ⟨s1.heap.objs.size, [s1.heap.objs.size], _, _, H1, rfl, I1.kept (t' := s1.toks) fun b o e => Heap.get?_push_of_some _ e, turn_list a _, ⟨_, Heap.get?_push_size _ rfl, rfl, rfl⟩, fun b hb => ?_, q⟩
    have e : b = s1.heap.objs.size := by simpa using hb
    subst e
    exact I1.fpOk (Nat.le_refl _) (I1.hok.fresh (Nat.le_refl _))
  · subst e
    cases r1
    obtain ⟨its, rv, p, hz⟩ := I1.tuple hq
    refine wpAny_pyIter_tuple (show s1.heap.IsTuple a its.toArray from p) ?_
    refine ⟨s1.heap.objs.size, [s1.heap.objs.size], _, _, H1, rfl, I1.kept (t' := s1.toks) fun b o e => Heap.get?_push_of_some _ e, turn_tuple a _, ⟨_, Heap.get?_push_size _ rfl, rfl, rfl⟩, fun b hb => ?_, q⟩
    have e : b = s1.heap.objs.size := by simpa using hb
    subst e
    exact I1.fpOk (Nat.le_refl _) (I1.hok.fresh (Nat.le_refl _))
section
variable {c : Ctx} {ρ : List SD} {n : Nat} {ta tb te : TE} {t u : TT} {as : TA} {Φ : Nat → D → Prop} {Ψ : Out} {ts us : TS}
theorem Env.perR {P : Hp} {L : List Addr} {n : Nat} {H : Hp} {σ : List (Option V)} (E : Env c P L n H σ ρ) : Same P H := E.pers.trans same_hid
theorem it_l {a : Addr} {xs : List V} {ds : List D} {P : Hp} (hs : SqL c.K P a xs) (hr : RpAll c.K P xs ds) : ItOk c (Itl c.K a) ds P where
  go := fun L n H σ ρ E i d hd => by
    obtain ⟨v, h1, h2⟩ := hr.get' hd
    refine ⟨⟨xs, v, same_l E.perR hs, h1⟩, fun x H' ⟨e, hy⟩ => ?_⟩
    subst e
    have e := hy xs (same_l E.perR hs)
    rw [h1] at e
    cases e
    exact ⟨Same.refl _, h2.mono E.pers⟩
  stop := fun L n H σ ρ E i hi => ⟨xs, same_l E.perR hs, by rw [hr.length]; exact hi⟩
theorem it_t {a : Addr} {xs : List V} {ds : List D} {P : Hp} (hs : SqT c.K P a xs) (hr : RpAll c.K P xs ds) : ItOk c (Itt c.K a) ds P where
  go := fun L n H σ ρ E i d hd => by
    obtain ⟨v, h1, h2⟩ := hr.get' hd
    refine ⟨⟨xs, v, same_t E.perR hs, h1⟩, fun x H' ⟨e, hy⟩ => ?_⟩
    subst e
    have e := hy xs (same_t E.perR hs)
    rw [h1] at e
    cases e
    exact ⟨Same.refl _, h2.mono E.pers⟩
  stop := fun L n H σ ρ E i hi => ⟨xs, same_t E.perR hs, by rw [hr.length]; exact hi⟩
def seqD : D → Option (List D)
  | .lst xs => some xs
  | .tup xs => some xs
  | _ => none
theorem wi_seq {Φ : Nat → List D → Prop} (h : WE c te ρ n fun n1 d => ∃ ds, seqD d = some ds ∧ Φ n1 ds) : WI c (iSeq c.K te) ρ n Φ := fun P L σ H R E q => by
  refine h P L σ H _ E fun x d n1 H1 s1 j1 r1 ⟨ds, e, k⟩ => ?_
  cases r1 with
  | lst hs ha =>
    cases e
    exact ⟨_, rfl, .inl ⟨⟨_, .inl (same_rd same_hid hs)⟩, q _ _ n1 H1 s1 j1 (it_l (.inl hs) ha) k⟩⟩
  | tup hs ha =>
    cases e
    exact ⟨_, rfl, .inr ⟨⟨_, same_t same_hid hs⟩, q _ _ n1 H1 s1 j1 (it_t hs ha) k⟩⟩
  | _ => cases e
def rangeD (lo : Int) (m : Nat) : List D := (List.range m).map fun k => D.int (lo + (k : Nat))
theorem rangeD_get {lo : Int} {m i : Nat} {d : D} (h : (rangeD lo m)[i]? = some d) : i < m ∧ d = .int (lo + i) := by
  unfold rangeD at h
  rw [List.getElem?_map] at h
  by_cases hi : i < m
  · rw [List.getElem?_range hi] at h
    exact ⟨hi, (Option.some.inj h).symm⟩
  · rw [List.getElem?_eq_none (by simp; omega)] at h
    cases h
theorem rangeD_len {lo : Int} {m : Nat} : (rangeD lo m).length = m := by unfold rangeD; simp
theorem it_r {lo : Int} {m : Nat} {P : Hp} : ItOk c (Itr lo m) (rangeD lo m) P where
  go := fun L n H σ ρ E i d hd => by
    obtain ⟨h1, h2⟩ := rangeD_get hd
    refine ⟨h1, fun x H' ⟨e, hy⟩ => ?_⟩
    subst e; subst hy; subst h2
    exact ⟨Same.refl _, .int _⟩
  stop := fun L n H σ ρ E i hi => by rw [rangeD_len] at hi; exact hi
theorem wi_rng1 {Φ : Nat → List D → Prop} (h : WA c as ρ n fun n1 ds => ∃ j : Int, ds = [.int j] ∧ -(2 ^ 62) ≤ j ∧ j < 2 ^ 62 ∧ Φ n1 (rangeD 0 j.toNat)) : WI c (iRng1 as) ρ n Φ := fun P L σ H R E q => by
  refine h P L σ H _ E fun vs ds n1 H1 s1 j1 r1 ⟨j, e, h1, h2, k⟩ => ?_
  subst e
  cases r1 with
  | cons r rr =>
    cases rr
    cases r
    exact ⟨j, rfl, h1, h2, q _ _ n1 H1 s1 j1 it_r k⟩
theorem wi_rng2 {Φ : Nat → List D → Prop} (h : WA c as ρ n fun n1 ds => ∃ i j : Int, ds = [.int i, .int j] ∧ (-(2 ^ 62) ≤ i ∧ i < 2 ^ 62 ∧ -(2 ^ 62) ≤ j ∧ j < 2 ^ 62) ∧ Φ n1 (rangeD i (j - i).toNat)) : WI c (iRng2 as) ρ n Φ := fun P L σ H R E q => by
  refine h P L σ H _ E fun vs ds n1 H1 s1 j1 r1 ⟨i, j, e, h1, k⟩ => ?_
  subst e
  cases r1 with
  | cons r rr =>
    cases rr with
    | cons r2 rr =>
      cases rr
      cases r
      cases r2
      exact ⟨i, j, rfl, h1, q _ _ n1 H1 s1 j1 it_r k⟩
/-- pairs (i, x) -/
def enumD (i : Int) : List D → List D
  | [] => []
  | d :: ds => .tup [.int i, d] :: enumD (i + 1) ds
theorem enumD_len : ∀ (ds : List D) (i : Int), (enumD i ds).length = ds.length
  | [], _ => rfl
  | _ :: ds, i => by show (enumD (i + 1) ds).length + 1 = ds.length + 1; rw [enumD_len ds]
theorem enumD_get : ∀ {ds : List D} {i : Int} {k : Nat} {d : D}, (enumD i ds)[k]? = some d → ∃ e, ds[k]? = some e ∧ d = .tup [.int (i + k), e]
  | [], i, k, d, h => by simp [enumD] at h
  | x :: ds, i, 0, d, h => by
    simp [enumD] at h
    exact ⟨x, rfl, by rw [← h]; simp⟩
  | x :: ds, i, k + 1, d, h => by
    obtain ⟨e, h1, h2⟩ := enumD_get (ds := ds) (i := i + 1) (k := k) (by simpa [enumD] using h)
    refine ⟨e, by simpa using h1, ?_⟩
    rw [h2]
    have : i + 1 + (k : Int) = i + ((k + 1 : Nat) : Int) := by omega
    rw [this]
theorem it_e {a : Addr} {xs : List V} {ds : List D} {P : Hp} (hs : SqL c.K P a xs) (hr : RpAll c.K P xs ds) : ItOk c (Ite c.K a) (enumD 0 ds) P where
  go := fun L n H σ ρ E i d hd => by
    obtain ⟨e, h1, h2⟩ := enumD_get hd
    obtain ⟨v, g1, g2⟩ := hr.get' h1
    subst h2
    refine ⟨⟨xs, v, same_l E.perR hs, g1⟩, fun x H' ⟨T, y, e1, e2, e3, hy⟩ => ?_⟩
    subst e1; subst e3
    have e4 := hy xs (same_l E.perR hs)
    rw [g1] at e4
    cases e4
    have sm := same_upd_new (o := .tup [.int (i : Nat), v]) e2
    refine ⟨sm, .tup (.inl (.inl (hid_at (E.noO T e2)))) (.cons ?_ (.cons ((g2.mono E.pers).mono (same_hid_of sm)) .nil))⟩
    have e5 : (0 : Int) + (i : Int) = (i : Int) := by omega
    rw [e5]
    exact .int _
  stop := fun L n H σ ρ E i hi => by
    rw [enumD_len] at hi
    exact ⟨xs, same_l E.perR hs, by rw [hr.length]; exact hi⟩
theorem wi_enum {Φ : Nat → List D → Prop} (h : WA c as ρ n fun n1 ds => ∃ xs, ds = [.lst xs] ∧ Φ n1 (enumD 0 xs)) : WI c (iEnum c.K as) ρ n Φ := fun P L σ H R E q => by
  refine h P L σ H _ E fun vs ds n1 H1 s1 j1 r1 ⟨xs, e, k⟩ => ?_
  subst e
  cases r1 with
  | cons r rr =>
    cases rr
    cases r with
    | lst hs ha => exact ⟨_, _, rfl, .inl (same_rd same_hid hs), q _ _ n1 H1 s1 j1 (it_e (.inl hs) ha) k⟩

/-! ### comprehensions -/
def wipeR (ρ : List SD) : List Nat → List SD
  | [] => ρ
  | v :: vs => (wipeR ρ vs).set v .un
theorem Slots.unset {pr : Program} {wd : World} {K : PySem.W.Frag} {O : List Addr} {H : Hp} : ∀ {σ : List (Option V)} {ρ : List SD} {L : List Addr} (i : Nat), Slots pr wd K O H σ ρ L → ∃ L', Slots pr wd K O H (σ.set i none) (ρ.set i .un) L' ∧ L'.Sublist L
  | _, _, _, _, .nil => ⟨[], .nil, List.Sublist.refl _⟩
  | _, _, _, 0, .un s => ⟨_, .un s, List.Sublist.refl _⟩
  | _, _, _, 0, .val _ s => ⟨_, .un s, List.Sublist.refl _⟩
  | _, _, _, 0, .own _ _ s => ⟨_, .un s, List.sublist_cons_self _ _⟩
  | _, _, _, i + 1, .un s => by
    obtain ⟨L', h1, h2⟩ := Slots.unset i s
    exact ⟨L', .un h1, h2⟩
  | _, _, _, i + 1, .val h s => by
    obtain ⟨L', h1, h2⟩ := Slots.unset i s
    exact ⟨L', .val h h1, h2⟩
  | _, _, _, i + 1, .own h r s => by
    obtain ⟨L', h1, h2⟩ := Slots.unset i s
    exact ⟨_ :: L', .own h r h1, h2.cons_cons _⟩
  | _, _, _, 0, .dic _ s => ⟨_, .un s, List.sublist_cons_self _ _⟩
  | _, _, _, 0, .dk _ s => ⟨_, .un s, List.sublist_cons_self _ _⟩
  | _, _, _, 0, .tw _ s => ⟨_, .un s, List.sublist_cons_self _ _⟩
  | _, _, _, i + 1, .dic h s => by
    obtain ⟨L', h1, h2⟩ := Slots.unset i s
    exact ⟨_ :: L', .dic h h1, h2.cons_cons _⟩
  | _, _, _, i + 1, .dk h s => by
    obtain ⟨L', h1, h2⟩ := Slots.unset i s
    exact ⟨_ :: L', .dk h h1, h2.cons_cons _⟩
  | _, _, _, i + 1, .tw h s => by
    obtain ⟨L', h1, h2⟩ := Slots.unset i s
    exact ⟨_ :: L', .tw h h1, h2.cons_cons _⟩
theorem Slots.wipe {pr : Program} {wd : World} {K : PySem.W.Frag} {O : List Addr} {H : Hp} {σ : List (Option V)} {ρ : List SD} {L : List Addr} (s : Slots pr wd K O H σ ρ L) : ∀ vs : List Nat, ∃ L', Slots pr wd K O H (wipe σ vs) (wipeR ρ vs) L' ∧ L'.Sublist L
  | [] => ⟨L, s, List.Sublist.refl _⟩
  | v :: vs => by
    obtain ⟨L1, h1, h2⟩ := Slots.wipe s vs
    obtain ⟨L2, h3, h4⟩ := h1.unset v
    exact ⟨L2, h3, h4.trans h2⟩
theorem wipe_set {σ : List (Option V)} {i : Nat} {v : V} : ∀ {vs : List Nat}, i ∈ vs → wipe (σ.set i (some v)) vs = wipe σ vs
  | w :: vs, h => by
    show (wipe (σ.set i (some v)) vs).set w none = (wipe σ vs).set w none
    by_cases hi : i ∈ vs
    · rw [wipe_set hi]
    · have hw : w = i := by
        rcases List.mem_cons.mp h with e | e
        · exact e.symm
        · exact absurd e hi
      subst hw
      have z : ∀ us : List Nat, w ∉ us → wipe (σ.set w (some v)) us = (wipe σ us).set w (some v) := by
        intro us
        induction us with
        | nil => intro _; rfl
        | cons u us ih =>
          intro hn
          show (wipe (σ.set w (some v)) us).set u none = ((wipe σ us).set u none).set w (some v)
          rw [ih fun q => hn (List.mem_cons_of_mem _ q)]
          exact List.set_comm _ _ fun e => hn (by rw [e]; exact List.mem_cons_self)
      rw [z vs hi, List.set_set]
theorem wipe_get {i : Nat} : ∀ {vs : List Nat} {σ : List (Option V)}, (wipe σ vs)[i]? = if i ∈ vs then σ[i]?.map fun _ => none else σ[i]?
  | [], σ => by simp [wipe]
  | v :: vs, σ => by
    show ((wipe σ vs).set v none)[i]? = _
    rw [List.getElem?_set]
    by_cases e : v = i
    · subst e
      rw [if_pos rfl, if_pos List.mem_cons_self]
      by_cases hl : v < (wipe σ vs).length
      · rw [if_pos hl]
        rw [wipe_length] at hl
        rw [List.getElem?_eq_getElem hl]; rfl
      · rw [if_neg hl]
        rw [wipe_length] at hl
        rw [List.getElem?_eq_none (by omega)]; rfl
    · rw [if_neg e, wipe_get]
      by_cases h : i ∈ vs
      · rw [if_pos h, if_pos (List.mem_cons_of_mem _ h)]
      · rw [if_neg h, if_neg (fun q => by rcases List.mem_cons.mp q with z | z; exact e z.symm; exact h z)]
theorem wipe_idem (σ : List (Option V)) (vs : List Nat) : wipe (wipe σ vs) vs = wipe σ vs := by
  apply List.ext_getElem?
  intro i
  rw [wipe_get, wipe_get]
  by_cases h : i ∈ vs
  · rw [if_pos h, if_pos h]; cases σ[i]? <;> rfl
  · rw [if_neg h, if_neg h]
theorem Slots.inj {pr : Program} {wd : World} {K : PySem.W.Frag} {O O' : List Addr} {H H' : Hp} : ∀ {σ : List (Option V)} {ρ : List SD} {L L' : List Addr}, Slots pr wd K O H σ ρ L → Slots pr wd K O' H' σ ρ L' → L = L'
  | _, _, _, _, .nil, .nil => rfl
  | _, _, _, _, .un s, .un t => Slots.inj s t
  | _, _, _, _, .val _ s, .val _ t => Slots.inj s t
  | _, _, _, _, .own _ _ s, .own _ _ t => by rw [Slots.inj s t]
  | _, _, _, _, .dic _ s, .dic _ t => by rw [Slots.inj s t]
  | _, _, _, _, .dk _ s, .dk _ t => by rw [Slots.inj s t]
  | _, _, _, _, .tw _ s, .tw _ t => by rw [Slots.inj s t]
theorem Env.noneB {P : Hp} {L : List Addr} {n n' : Nat} {H H' : Hp} {σ : List (Option V)} (E : Env c P L n H σ ρ) (e : Same (hid c.B H) (hid c.B H')) (j : c.J n' H') {p : Addr} (hp : H' p = none) : H p = none := by
  cases h : H p with
  | none => rfl
  | some o =>
    by_cases hb : p ∈ c.B
    · exact absurd hp ((E.step e j).al p (E.inO hb))
    · rw [(hid_some.mp (e p o (hid_some.mpr ⟨hb, h⟩))).2] at hp
      cases hp
theorem same_upd_old {B : List Addr} {H H' : Hp} {D : Addr} {o : HO} (h : H D = none) (s : Same (hid B H) (hid B H')) : Same (hid B H) (hid B (upd H' D o)) := fun a u e => by
  obtain ⟨h1, h2⟩ := hid_some.mp (s a u e)
  have ne : a ≠ D := fun q => by
    rw [q, hid_some, h] at e
    cases e.2
  exact hid_some.mpr ⟨h1, by rw [upd_ne ne]; exact h2⟩
/-- what the store to a comprehension's own names leaves -/
abbrev RW (vs : List Nat) : ER → ER → Prop := fun a b => wipe b vs = wipe a vs
theorem rw_name {vs : List Nat} {i : Nat} (h : i ∈ vs) : ∀ (σ : ER) (v : V), RW vs σ (σ.set i (some v)) := fun σ v => wipe_set h
theorem rw_refl {vs : List Nat} : ∀ σ : ER, RW vs σ σ := fun _ => rfl
theorem rw_trans {vs : List Nat} : ∀ a b e : ER, RW vs a b → RW vs b e → RW vs a e := fun _ _ _ h1 h2 => h2.trans h1
/-- the new list of a comprehension grows -/
theorem Env.grow {P : Hp} {L : List Addr} {n : Nat} {H : Hp} {σ : List (Option V)} {D : Addr} {xs : List V} {Ls : List Addr} (E : Env c P L n H σ ρ) (hD : D ∈ L) (sl : Slots c.pr c.wd c.K (L ++ c.O) H σ ρ Ls) (sb : Ls.Sublist L) (hn : D ∉ Ls) : Env c P L n (upd H D (.lst xs)) σ ρ := by
  have hm : D ∈ L ++ c.O := List.mem_append_left _ hD
  have hB : D ∉ c.B := E.notB hD
  have hO : D ∉ c.O := (E.fresh D hD).2
  exact { nd := E.nd, fresh := E.fresh,
          slots := ⟨Ls, sl.move (fun l hl => upd_ne fun e => hn (e ▸ hl)) (by rw [hid_upd_in hm]; exact Same.refl _), sb⟩,
          lst := fun l hl => by
            by_cases e : l = D
            · exact ⟨_, by rw [e, upd_same]⟩
            · rw [upd_ne e]; exact E.lst l hl,
          bag := fun b q hb => (E.bag b q hb).move (fun o h => by rw [upd_ne fun e : b = D => hO (e ▸ (E.bO b q hb).1)]; exact h) fun o h => by rw [upd_ne fun e : q = D => hO (e ▸ (E.bO b q hb).2.1)]; exact h,
          base := fun a o h => by
            have h0 : c.H0 D = none := (E.fresh D hD).1
            have ne : a ≠ D := fun e => by
              rw [e, hid_some] at h
              rw [h0] at h
              cases h.2
            obtain ⟨h1, h2⟩ := hid_some.mp (E.base a o h)
            exact hid_some.mpr ⟨h1, by rw [upd_ne ne]; exact h2⟩,
          pers := by rw [hid_upd_in hm]; exact E.pers,
          bO := E.bO,
          al := fun o ho => by rw [upd_ne fun e : o = D => hO (e ▸ ho)]; exact E.al o ho }
theorem Env.newOwn {P : Hp} {L : List Addr} {n : Nat} {H : Hp} {σ : List (Option V)} {D : Addr} {xs : List V} (E : Env c P L n H σ ρ) (hD : H D = none) : Env c P (D :: L) n (upd H D (.lst xs)) σ ρ := by
  have w := E.new hD
  obtain ⟨Ls, sl, sb⟩ := E.slots
  have e0 : hid ((D :: L) ++ c.O) (upd H D (.lst xs)) = hid (L ++ c.O) H := hid_new_in hD
  exact { nd := List.nodup_cons.mpr ⟨w.2.2, E.nd⟩,
          fresh := fun l hl => by
            rcases List.mem_cons.mp hl with e | e
            · subst e; exact ⟨w.1, w.2.1⟩
            · exact E.fresh l e,
          slots := ⟨Ls, sl.move (fun l hl => upd_ne fun e => w.2.2 (e ▸ sb.subset hl)) (by rw [e0]; exact Same.refl _), sb.cons _⟩,
          lst := fun l hl => by
            rcases List.mem_cons.mp hl with e | e
            · subst e; exact ⟨_, upd_same⟩
            · rw [upd_ne fun q : l = D => w.2.2 (q ▸ e)]; exact E.lst l e,
          bag := (E.newT hD).2.1,
          base := E.base.trans (E.newT hD).1,
          pers := by rw [e0]; exact E.pers,
          bO := E.bO,
          al := fun o ho => by rw [upd_ne fun e : o = D => w.2.1 (e ▸ ho)]; exact E.al o ho }
theorem wf_lc {wi : TI} {g : TG} {vs : List Nat} {Φ : Nat → List D → Prop} (h : WI c wi ρ n fun n1 ds => ∃ I : Nat → Nat → List D → Prop, I 0 n1 [] ∧
    (∀ k m acc d, ds[k]? = some d → I k m acc → WG c (RW vs) g d (wipeR ρ vs) m fun ρ2 => WT c t ρ2 m fun m2 b => if b = true then WE c te ρ2 m2 fun m3 y => acc.length < sizeLine ∧ I (k + 1) m3 (acc ++ [y]) else I (k + 1) m2 acc) ∧
    (∀ m acc, I ds.length m acc → Φ m acc)) : WF c (tLc wi g t te vs) ρ n Φ := fun P L σ H Q E q => by
  refine h P L σ H _ E fun J ds n1 H1 s1 j1 it ⟨I, h0, hs, hd⟩ => ?_
  intro D hD
  have E1 := (E.step s1 j1).pers'
  obtain ⟨Ls, sl, sb⟩ := E1.slots
  obtain ⟨Lw, slw, sbw⟩ := sl.wipe vs
  have Ew : Env c (hid (L ++ c.O) H1) L n1 H1 (wipe σ vs) (wipeR ρ vs) := E1.reslot slw (sbw.trans sb)
  have E2 := Ew.newOwn (xs := []) hD
  have DnL : D ∉ L := (E1.new hD).2.2
  -- the loop's invariant
  refine ⟨fun i m H' => m + i = ds.length ∧ ∃ n' xs acc, Env c (hid (L ++ c.O) H1) (D :: L) n' H' (wipe σ vs) (wipeR ρ vs) ∧ H' D = some (.lst xs) ∧ RpAll c.K (hid ((D :: L) ++ c.O) H') xs acc ∧ Same (hid c.B H1) (hid c.B H') ∧ I i n' acc, ⟨ds.length, rfl, n1, [], [], E2, upd_same, .nil, (E1.newT hD).1, h0⟩, ?_⟩
  rintro i m H' ⟨hm, n', xs, acc, E', hDx, hacc, sB, hI⟩
  by_cases hi : i < ds.length
  · right
    have hg : ds[i]? = some ds[i] := List.getElem?_eq_getElem hi
    obtain ⟨go, yl⟩ := it.go (D :: L) n' H' _ _ E' i _ hg
    refine ⟨go, fun H2 => ∃ n' xs acc, Env c (hid (L ++ c.O) H1) (D :: L) n' H2 (wipe σ vs) (wipeR ρ vs) ∧ H2 D = some (.lst xs) ∧ RpAll c.K (hid ((D :: L) ++ c.O) H2) xs acc ∧ Same (hid c.B H1) (hid c.B H2) ∧ I (i + 1) n' acc, ?_, ?_⟩
    · rintro H2 ⟨n2, xs2, acc2, a1, a2, a3, a4, a5⟩
      exact ⟨m - 1, by omega, by omega, n2, xs2, acc2, a1, a2, a3, a4, a5⟩
    · intro x H2 hy
      obtain ⟨sm, rx⟩ := yl x H2 hy
      have z := E'.same sm
      have E2' := E'.step z.1 z.2
      refine hs i n' acc _ hg hI _ (D :: L) _ H2 x _ E2' rx fun σ3 ρ3 E3 hw k3 => ?_
      refine ⟨hw.trans (wipe_idem σ vs), ?_⟩
      refine k3 _ (D :: L) σ3 H2 _ E3 fun b n4 H4 s4 j4 k4 => ?_
      have back : ∀ {H5 : Hp} {n5 : Nat}, Same (hid c.B H2) (hid c.B H5) → c.J n5 H5 → Env c (hid (L ++ c.O) H1) (D :: L) n5 H5 (wipe σ vs) (wipeR ρ vs) := fun s5 j5 => E2'.step s5 j5
      have own : ∀ {H5 : Hp}, Same (hid c.B H2) (hid c.B H5) → H5 D = some (.lst xs) := fun s5 => by
        rw [E2'.own s5 D List.mem_cons_self]
        exact sm D _ hDx
      have accs : ∀ {H5 : Hp}, Same (hid c.B H2) (hid c.B H5) → RpAll c.K (hid ((D :: L) ++ c.O) H5) xs acc := fun s5 => (hacc.mono (same_hid_of sm)).mono (E2'.sameLO s5)
      cases b with
      | false =>
        rw [if_neg Bool.false_ne_true] at k4 ⊢
        exact ⟨n4, xs, acc, back s4 j4, own s4, accs s4, (sB.trans z.1).trans s4, k4⟩
      | true =>
        rw [if_pos rfl] at k4 ⊢
        refine k4 _ (D :: L) σ3 H4 _ (E3.step s4 j4) fun y d n5 H5 s5 j5 r5 ⟨hz, k5⟩ => ?_
        have s45 := s4.trans s5
        refine ⟨xs, own s45, by rw [hacc.length]; exact hz, n5, xs ++ [y], acc ++ [d], ?_, upd_same, ?_, ?_, k5⟩
        · have Eb := back s45 j5
          obtain ⟨Ls5, sl5, sb5⟩ := Eb.slots
          have e5 := sl5.inj slw
          subst e5
          exact Eb.grow List.mem_cons_self sl5 sb5 fun q => DnL ((sbw.trans sb).subset q)
        · have hm : D ∈ (D :: L) ++ c.O := List.mem_append_left _ List.mem_cons_self
          rw [hid_upd_in hm]
          exact (accs s45).append (.cons r5 .nil)
        · exact same_upd_old hD ((sB.trans z.1).trans s45)
  · left
    have e : i = ds.length := by omega
    subst e
    refine ⟨it.stop (D :: L) n' H' _ _ E' _ (Nat.le_refl _), ?_⟩
    exact q D xs acc n' H' (s1.trans sB) (E.noneB s1 j1 hD) hDx hacc E'.bag (hd n' acc hI)
end
end L3
/-! L3d: operations over data. -/
namespace L3
open PySem L2

/-! ### data as the library's data -/
mutual
def dpy : D → PyData
  | .non => .none
  | .bl b => .bool b
  | .int i => .int i
  | .str s => .str s
  | .lst xs => .list (dpyAll xs)
  | .tup xs => .tuple (dpyAll xs)
  | .obj _ _ => .none
  | .dct _ => .none
  | .dcn _ _ _ => .none
  | .adr _ => .none
  | .ty _ => .none
def dpyAll : List D → List PyData
  | [] => []
  | x :: xs => dpy x :: dpyAll xs
end
mutual
def plain : D → Bool
  | .lst xs => plainAll xs
  | .tup xs => plainAll xs
  | .obj _ _ => false
  | .dct _ => false
  | .dcn _ _ _ => false
  | .adr _ => false
  | .ty _ => false
  | _ => true
def plainAll : List D → Bool
  | [] => true
  | x :: xs => plain x && plainAll xs
end
theorem dpyAll_map : ∀ xs : List D, dpyAll xs = xs.map dpy
  | [] => rfl
  | x :: xs => by show dpy x :: dpyAll xs = _; rw [dpyAll_map xs]; rfl
section
variable {K : PySem.W.Frag} {H : Hp}
mutual
theorem dp_D : ∀ (d : D) (v : V), Rp K H v d → plain d = true → Dp K H v (dpy d)
  | .non, _, h, _ => by cases h; exact .non
  | .bl b, _, h, _ => by cases h; exact .bl b
  | .int i, _, h, _ => by cases h; exact .int i
  | .str x, _, h, _ => by cases h; exact .str x
  | .lst xs, _, h, p => by
    cases h with
    | lst h r => exact .lst (.inl h) (dp_Ds xs _ r p)
  | .tup xs, _, h, p => by
    cases h with
    | tup h r => exact .tup h (dp_Ds xs _ r p)
  | .obj _ _, _, _, p => by cases p
  | .adr _, _, _, p => by cases p
  | .ty _, _, _, p => by cases p
  | .dct _, _, _, p => by cases p
  | .dcn _ _ _, _, _, p => by cases p
theorem dp_Ds : ∀ (ds : List D) (vs : List V), RpAll K H vs ds → plainAll ds = true → DpAll K H vs (dpyAll ds)
  | [], _, h, _ => by cases h; exact .nil
  | x :: xs, _, h, p => by
    cases h with
    | cons h r =>
      have p' : (plain x && plainAll xs) = true := p
      rw [Bool.and_eq_true] at p'
      exact .cons (dp_D x _ h p'.1) (dp_Ds xs _ r p'.2)
end
theorem Rp.dp {v : V} {d : D} (h : Rp K H v d) (p : plain d = true) : Dp K H v (dpy d) := dp_D d v h p
theorem RpAll.dp {vs : List V} {ds : List D} (h : RpAll K H vs ds) (p : plainAll ds = true) : DpAll K H vs (dpyAll ds) := dp_Ds ds vs h p
mutual
theorem Dp.mono {H' : Hp} (e : Same H H') : ∀ {v : V} {d : PyData}, Dp K H v d → Dp K H' v d
  | _, _, .non => .non
  | _, _, .bl b => .bl b
  | _, _, .int i => .int i
  | _, _, .str x => .str x
  | _, _, .lst h r => .lst (same_l e h) (DpAll.mono e r)
  | _, _, .tup h r => .tup (same_t e h) (DpAll.mono e r)
theorem DpAll.mono {H' : Hp} (e : Same H H') : ∀ {vs : List V} {ds : List PyData}, DpAll K H vs ds → DpAll K H' vs ds
  | _, _, .nil => .nil
  | _, _, .cons h r => .cons (Dp.mono e h) (DpAll.mono e r)
end
end
/-- fit for == -/
def fit (d : D) : Bool := plain d && SeqAt.shaped (dpy d)
def eqD (d e : D) : Bool := PyData.eqv (dpy d) (dpy e)
theorem fit_p {d : D} (h : fit d = true) : plain d = true := (Bool.and_eq_true_iff.mp h).1
theorem fit_s {d : D} (h : fit d = true) : SeqAt.shaped (dpy d) = true := (Bool.and_eq_true_iff.mp h).2
section
variable {K : PySem.W.Frag} {Φ : D → Prop}
theorem r2_eqD {d e : D} (hd : fit d = true) (he : fit e = true) (k : Φ (.bl (eqD d e))) : R2D K (rEqD K) d e Φ := fun O H x y Q rx ry _ q =>
  ⟨dpy d, dpy e, Dp.mono same_hid (rx.dp (fit_p hd)), Dp.mono same_hid (ry.dp (fit_p he)), fit_s hd, fit_s he, q _ _ H (Same.refl _) (.bl _) k⟩
theorem r2_neD {d e : D} (hd : fit d = true) (he : fit e = true) (k : Φ (.bl (!eqD d e))) : R2D K (rNeD K) d e Φ := fun O H x y Q rx ry _ q =>
  ⟨dpy d, dpy e, Dp.mono same_hid (rx.dp (fit_p hd)), Dp.mono same_hid (ry.dp (fit_p he)), fit_s hd, fit_s he, q _ _ H (Same.refl _) (.bl _) k⟩
end
/-- in, over a list or a tuple of data -/
def rInS (K : PySem.W.Frag) (neg : Bool) : R2 := fun x y H Q => ∃ d ds, Dp K H x d ∧ (Dp K H y (.list ds) ∨ Dp K H y (.tuple ds)) ∧ SeqAt.shaped d = true ∧ SeqAt.shaped (.list ds) = true ∧ Q (.bl (if neg then !ds.any fun z => PyData.eqv z d else ds.any fun z => PyData.eqv z d)) H
theorem op_inSeq {X : Cx} (hu : X.A.units + 65 < cLine) : OpR X (compareOp .In) (rInS X.K false) := by
  intro pins s σ H x y v u Q I rx ry h
  obtain ⟨d, ds, hd, he | he, sd, se, q⟩ := h
  · obtain ⟨as, r1⟩ := Dp.reads I d x v hd rx
    obtain ⟨bs, r2⟩ := Dp.reads I (.list ds) y u he ry
    exact SeqAt.in_list_reads r2 r1 (SeqAt.canLay_of_shaped se) (SeqAt.canLay_of_shaped sd) (PyProof.Rows.room_in_shaped sd hu) ⟨.bl _, H, I, rfl, q⟩
  · obtain ⟨as, r1⟩ := Dp.reads I d x v hd rx
    obtain ⟨bs, r2⟩ := Dp.reads I (.tuple ds) y u he ry
    exact SeqAt.in_tuple_reads r2 r1 (SeqAt.canLay_of_shaped se) (SeqAt.canLay_of_shaped sd) (PyProof.Rows.room_in_shaped sd hu) ⟨.bl _, H, I, rfl, q⟩
theorem op_notInSeq {X : Cx} (hu : X.A.units + 65 < cLine) : OpR X (compareOp .NotIn) (rInS X.K true) := by
  intro pins s σ H x y v u Q I rx ry h
  obtain ⟨d, ds, hd, he | he, sd, se, q⟩ := h
  · obtain ⟨as, r1⟩ := Dp.reads I d x v hd rx
    obtain ⟨bs, r2⟩ := Dp.reads I (.list ds) y u he ry
    exact SeqAt.notIn_list_reads r2 r1 (SeqAt.canLay_of_shaped se) (SeqAt.canLay_of_shaped sd) (PyProof.Rows.room_in_shaped sd hu) ⟨.bl _, H, I, rfl, q⟩
  · obtain ⟨as, r1⟩ := Dp.reads I d x v hd rx
    obtain ⟨bs, r2⟩ := Dp.reads I (.tuple ds) y u he ry
    exact SeqAt.notIn_tuple_reads r2 r1 (SeqAt.canLay_of_shaped se) (SeqAt.canLay_of_shaped sd) (PyProof.Rows.room_in_shaped sd hu) ⟨.bl _, H, I, rfl, q⟩
def inD (d : D) (ds : List D) : Bool := ds.any fun z => eqD z d
theorem inD_py (d : D) (ds : List D) : ((dpyAll ds).any fun z => PyData.eqv z (dpy d)) = inD d ds := by
  rw [dpyAll_map, List.any_map]; rfl
theorem r2_in {K : PySem.W.Frag} {Φ : D → Prop} {d e : D} {ds : List D} (hs : seqD e = some ds) (hd : fit d = true) (he : fit (.lst ds) = true) (k : Φ (.bl (inD d ds))) : R2D K (rInS K false) d e Φ := fun O H x y Q rx ry _ q => by
  have z : PyData.list (dpyAll ds) = dpy (.lst ds) := rfl
  refine ⟨dpy d, dpyAll ds, Dp.mono same_hid (rx.dp (fit_p hd)), ?_, fit_s hd, fit_s he, ?_⟩
  · cases ry with
    | lst h r => cases hs; exact .inl (Dp.mono same_hid (.lst (.inl h) (r.dp (fit_p he))))
    | tup h r => cases hs; exact .inr (Dp.mono same_hid (.tup h (r.dp (fit_p he))))
    | _ => cases hs
  · show Q (.bl (if false = true then _ else ((dpyAll ds).any fun z => PyData.eqv z (dpy d)))) H
    rw [if_neg Bool.false_ne_true, inD_py]
    exact q _ _ H (Same.refl _) (.bl _) k
theorem r2_notIn {K : PySem.W.Frag} {Φ : D → Prop} {d e : D} {ds : List D} (hs : seqD e = some ds) (hd : fit d = true) (he : fit (.lst ds) = true) (k : Φ (.bl (!inD d ds))) : R2D K (rInS K true) d e Φ := fun O H x y Q rx ry _ q => by
  refine ⟨dpy d, dpyAll ds, Dp.mono same_hid (rx.dp (fit_p hd)), ?_, fit_s hd, fit_s he, ?_⟩
  · cases ry with
    | lst h r => cases hs; exact .inl (Dp.mono same_hid (.lst (.inl h) (r.dp (fit_p he))))
    | tup h r => cases hs; exact .inr (Dp.mono same_hid (.tup h (r.dp (fit_p he))))
    | _ => cases hs
  · show Q (.bl (if true = true then !((dpyAll ds).any fun z => PyData.eqv z (dpy d)) else _)) H
    rw [if_pos rfl, inD_py]
    exact q _ _ H (Same.refl _) (.bl _) k

/-! ### subscripts, slices -/
def ixD : D → Int → Option D
  | .lst xs, i => atI xs i
  | .tup xs, i => atI xs i
  | .str z, i => if z.length ≤ sizeLine then (atI z.cps.toList i).map fun c => .str ⟨#[c]⟩ else none
  | _, _ => none
theorem atI_rp {K : PySem.W.Frag} {H : Hp} {vs : List V} {ds : List D} {i : Int} {d : D} (r : RpAll K H vs ds) (h : atI ds i = some d) : ∃ v, atI vs i = some v ∧ Rp K H v d := by
  unfold atI at h ⊢
  rw [r.length]
  cases e : ixN ds.length i with
  | none => rw [e] at h; cases h
  | some j =>
    rw [e] at h
    exact r.get' h
theorem r2_ix {K : PySem.W.Frag} {Φ : D → Prop} {d f : D} {i : Int} (h : ixD d i = some f) (k : Φ f) : R2D K (rIx K) d (.int i) Φ := fun O H x y Q rx ry _ q => by
  cases ry
  cases rx with
  | lst hs r =>
    obtain ⟨v, h1, h2⟩ := atI_rp r h
    exact .inl ⟨_, _, i, v, rfl, rfl, .inl (same_rd same_hid hs), h1, q v f H (Same.refl _) h2 k⟩
  | tup hs r =>
    obtain ⟨v, h1, h2⟩ := atI_rp r h
    exact .inr (.inl ⟨_, _, i, v, rfl, rfl, same_t same_hid hs, h1, q v f H (Same.refl _) h2 k⟩)
  | str z =>
    have h' : (if z.length ≤ sizeLine then (atI z.cps.toList i).map fun c => D.str ⟨#[c]⟩ else none) = some f := h
    by_cases hz : z.length ≤ sizeLine
    · rw [if_pos hz] at h'
      cases e : atI z.cps.toList i with
      | none => rw [e] at h'; cases h'
      | some c =>
        rw [e] at h'
        refine .inr (.inr ⟨z, i, c, rfl, rfl, hz, e, q _ f H (Same.refl _) ?_ k⟩)
        rw [← Option.some.inj h']
        exact .str _
    · rw [if_neg hz] at h'; cases h'
  | _ => cases h
theorem ixD_nat {xs : List D} {j : Nat} {d : D} (h : xs[j]? = some d) : ixD (.lst xs) (j : Int) = some d := atI_nat h
theorem ixD_natT {xs : List D} {j : Nat} {d : D} (h : xs[j]? = some d) : ixD (.tup xs) (j : Int) = some d := atI_nat h
section
variable {c : Ctx} {ρ : List SD} {n : Nat} {ta tb te : TE} {t u : TT} {as : TA} {Φ : Nat → D → Prop} {Ψ : Out} {ts us : TS}
theorem wo_none {Φ : Nat → Option Int → Prop} (k : Φ n none) : WO c tNoPart ρ n Φ := fun P L σ H Q E q => q none n H (Same.refl _) E.bag k
theorem wo_some {Φ : Nat → Option Int → Prop} (h : WE c te ρ n fun n1 d => ∃ i, d = .int i ∧ Φ n1 (some i)) : WO c (tPart te) ρ n Φ := fun P L σ H Q E q => by
  refine h P L σ H _ E fun x d n1 H1 s1 j1 r1 ⟨i, e, k⟩ => ?_
  subst e
  cases r1
  exact ⟨i, rfl, q (some i) n1 H1 s1 j1 k⟩
def rSlS3 (K : PySem.W.Frag) : V → Option Int → Option Int → Hp → VK → Prop := fun x lo hi H Q => rSlL K x lo hi H Q ∨ rSlA K x lo hi H Q ∨ rSlS x lo hi H Q
theorem sl_seq {X : Cx} : SlR X (rSlS3 X.K) := by
  intro pins s σ H x v vl vu lo hi sl Q I rx hs pl pu h
  rcases h with h | h | h
  · exact sl_list pins s σ H x v vl vu lo hi sl Q I rx hs pl pu h
  · exact sl_tupA pins s σ H x v vl vu lo hi sl Q I rx hs pl pu h
  · exact sl_str pins s σ H x v vl vu lo hi sl Q I rx hs pl pu h
def cutD (xs : List D) (lo hi : Option Int) : List D := (xs.drop (HT.sIx xs.length 0 lo)).take (HT.sIx xs.length xs.length hi - HT.sIx xs.length 0 lo)
def slD (d : D) (lo hi : Option Int) : Option D := match d with
  | .lst xs => some (.lst (cutD xs lo hi))
  | .tup xs => some (.tup (cutD xs lo hi))
  | .str z => if z.length ≤ sizeLine then some (.str (cutS z lo hi)) else none
  | _ => none
theorem RpAll.cut {K : PySem.W.Frag} {H : Hp} {vs : List V} {ds : List D} (r : RpAll K H vs ds) (lo hi : Option Int) : RpAll K H (cutV vs lo hi) (cutD ds lo hi) := by
  unfold cutV cutD
  rw [r.length]
  exact (r.drop _).take _
theorem cutD_whole {xs : List D} {lo hi : Option Int} (h : HT.sIx xs.length 0 lo = 0 ∧ HT.sIx xs.length xs.length hi = xs.length) : cutD xs lo hi = xs := by
  unfold cutD
  rw [h.1, h.2]
  simp
theorem we_sl {tl th : TO} (h : WE c te ρ n fun n1 d => WO c tl ρ n1 fun n2 lo => WO c th ρ n2 fun n3 hi => ∃ f, slD d lo hi = some f ∧ Φ n3 f) : WE c (tSl (rSlS3 c.K) te tl th) ρ n Φ := fun P L σ H Q E q => by
  refine h P L σ H _ E fun x d n1 H1 s1 j1 r1 h1 => ?_
  have E1 := E.step s1 j1
  refine h1 P L σ H1 _ E1 fun lo n2 H2 s2 j2 h2 => ?_
  have E2 := E1.step s2 j2
  refine h2 P L σ H2 _ E2 fun hi n3 H3 s3 j3 ⟨f, e, k⟩ => ?_
  have E3 := E2.step s3 j3
  have r3 := (r1.mono (E1.sameLO s2)).mono (E2.sameLO s3)
  have s := (s1.trans s2).trans s3
  cases r3 with
  | @lst a xs ds hs r =>
    cases e
    refine .inl ⟨_, _, rfl, .inl (same_rd same_hid hs), fun p hp => ?_⟩
    have z := E3.newT (o := .lst (cutV xs lo hi)) hp
    exact q _ _ n3 _ (s.trans z.1) z.2.1 (.lst (.inl (hid_at z.2.2)) ((r.cut lo hi).mono (rp_upd (K := c.K) hp))) k
  | @tup a xs ds hs r =>
    cases e
    refine .inr (.inl ⟨_, _, rfl, same_t same_hid hs, fun hw => ?_, fun hw p hp => ?_⟩)
    · rw [r.length] at hw
      rw [cutD_whole hw] at k
      exact q _ _ n3 _ s j3 (.tup hs r) k
    · have z := E3.newT (o := .tup (cutV xs lo hi)) hp
      exact q _ _ n3 _ (s.trans z.1) z.2.1 (.tup (.inl (.inl (hid_at z.2.2))) ((r.cut lo hi).mono (rp_upd (K := c.K) hp))) k
  | str z =>
    have e' : (if z.length ≤ sizeLine then some (D.str (cutS z lo hi)) else none) = some f := e
    by_cases hz : z.length ≤ sizeLine
    · rw [if_pos hz] at e'
      cases e'
      exact .inr (.inr ⟨z, rfl, hz, q _ _ n3 _ s j3 (.str _) k⟩)
    · rw [if_neg hz] at e'; cases e'
  | _ => cases e
end

/-! ### + -/
section
variable {X : Cx}
theorem inv_rdL {pins : List (Addr × Obj)} {σ : St} {H : Hp} {s : Shared} {a : Addr} {xs : List V} (I : Inv X pins σ H s) (h : Rd H a (.lst xs)) : ∃ (its : List Value) (n : Nat), Vals xs its ∧ s.heap.get? a = some { cls := .type "list", data := .seq its.toArray n } ∧ xs.length ≤ sizeLine := by
  obtain ⟨z, its, n, r, e⟩ := h.ok I.hok
  exact ⟨its, n, r, e, z⟩
/-- list + list, whatever is read -/
def rCatL : R2 := fun x y H Q => ∃ l b xs zs, x = .ref l ∧ y = .ref b ∧ Rd H l (.lst xs) ∧ Rd H b (.lst zs) ∧ xs.length + zs.length ≤ sizeLine ∧ ∀ p, H p = none → Q (.ref p) (upd H p (.lst (xs ++ zs)))
theorem op_catL : OpR X (binaryOp .Add) rCatL := by
  intro pins s σ H x y v u Q I rx ry h
  obtain ⟨l, b, xs, zs, rfl, rfl, hH, hB, hz, q⟩ := h
  cases rx
  cases ry
  obtain ⟨its, n, r, e, z⟩ := inv_rdL I hH
  obtain ⟨its2, n2, r2, e2, z2⟩ := inv_rdL I hB
  have h1 := r.length
  have h2 := r2.length
  refine PySem.P.add_list e e2 ?_ (by rw [List.size_toArray, List.size_toArray]; omega)
  have ea : its.toArray ++ its2.toArray = (its ++ its2).toArray := by simp
  rw [ea]
  exact ⟨.ref _, _, I.lnew (t' := s.toks) (r.append r2) (by rw [List.length_append]; omega), rfl, q _ I.fresh⟩
def rAddD (K : PySem.W.Frag) : R2 := fun x y H Q => rI0 (fun i j => .int (i + j)) x y H Q ∨ (∃ i j, x = .str i ∧ y = .str j ∧ i.length + j.length ≤ sizeLine ∧ Q (.str (i ++ j)) H) ∨ rCatA K x y H Q ∨ rCatL x y H Q
theorem op_addD : OpR X (binaryOp .Add) (rAddD X.K) := op_add.or (op_add_str.or (op_catA.or op_catL))
end
def addD : D → D → Option D
  | .int i, .int j => some (.int (i + j))
  | .str s, .str t => if s.length + t.length ≤ sizeLine then some (.str (s ++ t)) else none
  | .lst a, .lst b => if a.length + b.length ≤ sizeLine then some (.lst (a ++ b)) else none
  | .tup a, .tup b => if a.length + b.length ≤ sizeLine then some (.tup (a ++ b)) else none
  | _, _ => none
theorem r2_add {K : PySem.W.Frag} {Φ : D → Prop} {d e f : D} (h : addD d e = some f) (k : Φ f) : R2D K (rAddD K) d e Φ := fun O H x y Q rx ry no q => by
  cases rx with
  | int i =>
    cases ry with
    | int j => cases h; exact .inl ⟨i, j, rfl, rfl, q _ _ H (Same.refl _) (.int _) k⟩
    | _ => cases h
  | str i =>
    cases ry with
    | str j =>
      have h' : (if i.length + j.length ≤ sizeLine then some (D.str (i ++ j)) else none) = some f := h
      by_cases hz : i.length + j.length ≤ sizeLine
      · rw [if_pos hz] at h'
        cases h'
        exact .inr (.inl ⟨i, j, rfl, rfl, hz, q _ _ H (Same.refl _) (.str _) k⟩)
      · rw [if_neg hz] at h'; cases h'
    | _ => cases h
  | @lst a xs ds hs r =>
    cases ry with
    | @lst b ys es hs2 r2 =>
      have h' : (if ds.length + es.length ≤ sizeLine then some (D.lst (ds ++ es)) else none) = some f := h
      by_cases hz : ds.length + es.length ≤ sizeLine
      · rw [if_pos hz] at h'
        cases h'
        refine .inr (.inr (.inr ⟨a, b, xs, ys, rfl, rfl, same_rd same_hid hs, same_rd same_hid hs2, by rw [r.length, r2.length]; exact hz, fun p hp => ?_⟩))
        exact q _ _ _ (same_upd_new hp) (.lst (.inl (hid_at (no p hp))) ((r.append r2).mono (rp_upd (K := K) hp))) k
      · rw [if_neg hz] at h'; cases h'
    | _ => cases h
  | @tup a xs ds hs r =>
    cases ry with
    | @tup b ys es hs2 r2 =>
      have h' : (if ds.length + es.length ≤ sizeLine then some (D.tup (ds ++ es)) else none) = some f := h
      by_cases hz : ds.length + es.length ≤ sizeLine
      · rw [if_pos hz] at h'
        cases h'
        refine .inr (.inr (.inl ⟨a, b, xs, ys, rfl, rfl, same_t same_hid hs, same_t same_hid hs2, by rw [r.length, r2.length]; exact hz, fun e => ?_, fun e1 e2 => ?_, fun _ _ p hp => ?_⟩))
        · subst e
          cases r
          exact q _ _ H (Same.refl _) (.tup hs2 r2) k
        · subst e2
          cases r2
          rw [List.append_nil] at k
          exact q _ _ H (Same.refl _) (.tup hs r) k
        · exact q _ _ _ (same_upd_new hp) (.tup (.inl (.inl (hid_at (no p hp)))) ((r.append r2).mono (rp_upd (K := K) hp))) k
      · rw [if_neg hz] at h'; cases h'
    | _ => cases h
  | _ => cases h
end L3
/-! L3e: calls of built-ins over data; a def's promise over data. -/
namespace L3
open PySem L2

/-! ### len, list, tuple, int, abs -/
section
variable {X : Cx}
def rLenD (K : PySem.W.Frag) : List V → Hp → VK → Prop := fun xs H Q => (∃ p ys, xs = [.ref p] ∧ (SqL K H p ys ∨ SqT K H p ys) ∧ Q (.int ys.length) H) ∨ ∃ z, xs = [.str z] ∧ z.length ≤ sizeLine ∧ Q (.int z.length) H
theorem call_lenX : CallR X (.builtin "len") (rLenD X.K) := call_len_seq.or call_len_str
def rListD (K : PySem.W.Frag) : List V → Hp → VK → Prop := fun xs H Q => ∃ p ys, xs = [.ref p] ∧ (SqL K H p ys ∨ SqT K H p ys) ∧ ∀ l, H l = none → Q (.ref l) (upd H l (.lst ys))
theorem call_listX : CallR X (.type "list") (rListD X.K) := call_list_of
def rTupD (K : PySem.W.Frag) : List V → Hp → VK → Prop := fun xs H Q => ∃ p ys, xs = [.ref p] ∧ ((SqL K H p ys ∧ ∀ l, H l = none → Q (.ref l) (upd H l (.tup ys))) ∨ (SqT K H p ys ∧ Q (.ref p) H))
theorem call_tupX : CallR X (.type "tuple") (rTupD X.K) := call_tuple_of
def rIntD : List V → Hp → VK → Prop := fun xs H Q => (∃ i, xs = [.int i] ∧ Q (.int i) H) ∨ ∃ k, xs = [.bl k] ∧ Q (.int (if k then 1 else 0)) H
theorem call_intX : CallR X (.type "int") rIntD := call_int1
def rAbsD : List V → Hp → VK → Prop := fun xs H Q => ∃ i, xs = [.int i] ∧ Q (.int (if i < 0 then -i else i)) H
theorem call_absX : CallR X (.builtin "abs") rAbsD := call_abs
end
theorem RpAll.one {K : PySem.W.Frag} {H : Hp} {vs : List V} {d : D} (r : RpAll K H vs [d]) : ∃ v, vs = [v] ∧ Rp K H v d := by
  cases r with
  | cons h t => cases t; exact ⟨_, rfl, h⟩
theorem RpAll.two {K : PySem.W.Frag} {H : Hp} {vs : List V} {d e : D} (r : RpAll K H vs [d, e]) : ∃ v u, vs = [v, u] ∧ Rp K H v d ∧ Rp K H u e := by
  cases r with
  | cons h t =>
    obtain ⟨u, e, h2⟩ := t.one
    exact ⟨_, u, by rw [e], h, h2⟩
section
variable {K : PySem.W.Frag} {Φ : D → Prop}
def lenD : D → Option Int
  | .lst xs => some xs.length
  | .tup xs => some xs.length
  | .str z => if z.length ≤ sizeLine then some z.length else none
  | _ => none
theorem rc_len {d : D} {m : Int} (h : lenD d = some m) (k : Φ (.int m)) : RCD K (rLenD K) [d] Φ := fun O H xs Q rs no q => by
  obtain ⟨v, rfl, r⟩ := rs.one
  cases r with
  | @lst a ys ds hs ha =>
    refine .inl ⟨a, ys, rfl, .inl (.inl (same_rd same_hid hs)), q _ _ H (Same.refl _) (.int _) ?_⟩
    rw [ha.length, Option.some.inj (show some ((ds.length : Nat) : Int) = some m from h)]
    exact k
  | @tup a ys ds hs ha =>
    refine .inl ⟨a, ys, rfl, .inr (same_t same_hid hs), q _ _ H (Same.refl _) (.int _) ?_⟩
    rw [ha.length, Option.some.inj (show some ((ds.length : Nat) : Int) = some m from h)]
    exact k
  | str z =>
    have h' : (if z.length ≤ sizeLine then some ((z.length : Nat) : Int) else none) = some m := h
    by_cases hz : z.length ≤ sizeLine
    · rw [if_pos hz] at h'
      refine .inr ⟨z, rfl, hz, q _ _ H (Same.refl _) (.int _) ?_⟩
      rw [Option.some.inj h']
      exact k
    · rw [if_neg hz] at h'; cases h'
  | _ => cases h
theorem rc_list {d : D} {ds : List D} (h : seqD d = some ds) (k : Φ (.lst ds)) : RCD K (rListD K) [d] Φ := fun O H xs Q rs no q => by
  obtain ⟨v, rfl, r⟩ := rs.one
  cases r with
  | @lst a ys ds hs ha =>
    cases h
    exact ⟨a, ys, rfl, .inl (.inl (same_rd same_hid hs)), fun l hl => q _ _ _ (same_upd_new hl) (.lst (.inl (hid_at (no l hl))) (ha.mono (rp_upd (K := K) hl))) k⟩
  | @tup a ys ds hs ha =>
    cases h
    exact ⟨a, ys, rfl, .inr (same_t same_hid hs), fun l hl => q _ _ _ (same_upd_new hl) (.lst (.inl (hid_at (no l hl))) (ha.mono (rp_upd (K := K) hl))) k⟩
  | _ => cases h
theorem rc_tup {d : D} {ds : List D} (h : seqD d = some ds) (k : Φ (.tup ds)) : RCD K (rTupD K) [d] Φ := fun O H xs Q rs no q => by
  obtain ⟨v, rfl, r⟩ := rs.one
  cases r with
  | @lst a ys ds hs ha =>
    cases h
    exact ⟨a, ys, rfl, .inl ⟨.inl (same_rd same_hid hs), fun l hl => q _ _ _ (same_upd_new hl) (.tup (.inl (.inl (hid_at (no l hl)))) (ha.mono (rp_upd (K := K) hl))) k⟩⟩
  | @tup a ys ds hs ha =>
    cases h
    exact ⟨a, ys, rfl, .inr ⟨same_t same_hid hs, q _ _ H (Same.refl _) (.tup hs ha) k⟩⟩
  | _ => cases h
theorem rc_int {i : Int} (k : Φ (.int i)) : RCD K rIntD [.int i] Φ := fun O H xs Q rs no q => by
  obtain ⟨v, rfl, r⟩ := rs.one
  cases r
  exact .inl ⟨i, rfl, q _ _ H (Same.refl _) (.int _) k⟩
theorem rc_intB {b : Bool} (k : Φ (.int (if b then 1 else 0))) : RCD K rIntD [.bl b] Φ := fun O H xs Q rs no q => by
  obtain ⟨v, rfl, r⟩ := rs.one
  cases r
  exact .inr ⟨b, rfl, q _ _ H (Same.refl _) (.int _) k⟩
theorem rc_abs {i : Int} (k : Φ (.int (if i < 0 then -i else i))) : RCD K rAbsD [.int i] Φ := fun O H xs Q rs no q => by
  obtain ⟨v, rfl, r⟩ := rs.one
  cases r
  exact ⟨i, rfl, q _ _ H (Same.refl _) (.int _) k⟩
/-- sum, max, min of a list of ints; any, all of a list of truths -/
theorem rc_sum {ns : List Int} (k : Φ (.int ns.sum)) : RCD K (rSum K) [.lst (ns.map D.int)] Φ := fun O H xs Q rs no q => by
  obtain ⟨v, rfl, r⟩ := rs.one
  cases r with
  | @lst a ys ds hs ha =>
    have e := ha.ints
    subst e
    exact ⟨a, ns, rfl, .inl (same_rd same_hid hs), q _ _ H (Same.refl _) (.int _) k⟩
theorem rc_max {ns : List Int} (hn : 0 < ns.length) (k : ∀ m, m ∈ ns → (∀ y ∈ ns, y ≤ m) → Φ (.int m)) : RCD K (rMax K) [.lst (ns.map D.int)] Φ := fun O H xs Q rs no q => by
  obtain ⟨v, rfl, r⟩ := rs.one
  cases r with
  | @lst a ys ds hs ha =>
    have e := ha.ints
    subst e
    exact ⟨a, ns, rfl, .inl (same_rd same_hid hs), hn, fun m h1 h2 => q _ _ H (Same.refl _) (.int _) (k m h1 h2)⟩
theorem rc_min {ns : List Int} (hn : 0 < ns.length) (k : ∀ m, m ∈ ns → (∀ y ∈ ns, m ≤ y) → Φ (.int m)) : RCD K (rMin K) [.lst (ns.map D.int)] Φ := fun O H xs Q rs no q => by
  obtain ⟨v, rfl, r⟩ := rs.one
  cases r with
  | @lst a ys ds hs ha =>
    have e := ha.ints
    subst e
    exact ⟨a, ns, rfl, .inl (same_rd same_hid hs), hn, fun m h1 h2 => q _ _ H (Same.refl _) (.int _) (k m h1 h2)⟩
theorem RpAll.bls {H : Hp} : ∀ {vs : List V} {bs : List Bool}, RpAll K H vs (bs.map D.bl) → vs = bs.map V.bl
  | _, [], h => by cases h; rfl
  | _, n :: ns, h => by
    cases h with
    | cons h r => cases h; rw [RpAll.bls r]; rfl
theorem rc_any {bs : List Bool} (k : Φ (.bl (bs.any id))) : RCD K (rAny K) [.lst (bs.map D.bl)] Φ := fun O H xs Q rs no q => by
  obtain ⟨v, rfl, r⟩ := rs.one
  cases r with
  | @lst a ys ds hs ha =>
    have e := ha.bls
    subst e
    exact ⟨a, bs, rfl, .inl (same_rd same_hid hs), q _ _ H (Same.refl _) (.bl _) k⟩
theorem rc_all {bs : List Bool} (k : Φ (.bl (bs.all id))) : RCD K (rAll K) [.lst (bs.map D.bl)] Φ := fun O H xs Q rs no q => by
  obtain ⟨v, rfl, r⟩ := rs.one
  cases r with
  | @lst a ys ds hs ha =>
    have e := ha.bls
    subst e
    exact ⟨a, bs, rfl, .inl (same_rd same_hid hs), q _ _ H (Same.refl _) (.bl _) k⟩

/-! ### isinstance with built-in types -/
def tyD : D → Option String
  | .non => some "NoneType"
  | .bl _ => some "bool"
  | .int _ => some "int"
  | .str _ => some "str"
  | .lst _ => some "list"
  | .tup _ => some "tuple"
  | _ => none
theorem tyD_X {H : Hp} {O : List Addr} {v : V} {d : D} {T : String} (r : Rp K (hid O H) v d) (h : tyD d = some T) : TyX K H v (.type T) := by
  cases r with
  | non => cases h; exact .base .non
  | bl b => cases h; exact .base (.bl b)
  | int i => cases h; exact .base (.int i)
  | str x => cases h; exact .base (.str x)
  | lst hs ha =>
    cases h
    rcases same_rd same_hid hs with e | ⟨o, e⟩
    · exact .base (.lst e)
    · exact .base (.frz e)
  | tup hs ha =>
    cases h
    rcases same_t same_hid hs with (e | ⟨o, e⟩) | ⟨o, its, n, hk, hc, _⟩
    · exact .base (.tup e)
    · exact .fTuple e
    · exact .kTuple hk hc
  | _ => cases h
theorem rc_isi {d : D} {T U : String} {b : Bool} (h : tyD d = some T) (hk : kitB T U = some b) (k : Φ (.bl b)) : RCD K (rIsi K) [d, .ty U] Φ := fun O H xs Q rs no q => by
  obtain ⟨v, u, rfl, r1, r2⟩ := rs.two
  cases r2
  exact ⟨v, .ty U, .type T, .type U, b, rfl, .ty U, tyD_X r1 h, kit_ty hk, q _ _ H (Same.refl _) (.bl _) k⟩
end

/-! ### sorted of data -/
section
variable {X : Cx}
abbrev LeD : D → D → Bool := PySem.W.dataLe false dpy
def sortD (ds : List D) : List D := ds.mergeSort LeD
def rSortD (K : PySem.W.Frag) : List V → Hp → VK → Prop := fun vs H Q => ∃ (O : List Addr) (v : V) (ds : List D), vs = [v] ∧ Rp K (hid O H) v (.lst ds) ∧ plainAll ds = true ∧ PySem.W.AllAlike (ds.map dpy) ∧ PySem.W.Sortable (ds.map dpy) ∧ ds.length ≤ sizeLine ∧
  (∀ d ∈ ds, (dpy d).depth ≤ 50) ∧ ∀ l ys, H l = none → RpAll K (hid O H) ys (sortD ds) → Q (.ref l) (upd H l (.lst ys))
theorem plainAll_mem : ∀ {ds : List D} {d : D}, plainAll ds = true → d ∈ ds → plain d = true
  | e :: ds, d, h, hd => by
    have h' : (plain e && plainAll ds) = true := h
    rw [Bool.and_eq_true] at h'
    rcases List.mem_cons.mp hd with q | q
    · rw [q]; exact h'.1
    · exact plainAll_mem h'.2 q
theorem each_rp {K : PySem.W.Frag} {H : Hp} : ∀ {vs : List V} {us : List Value} {ds : List D}, Vals vs us → RpAll K H vs ds → PySem.W.EachIs (fun (u : Value) (d : D) => ∃ v, RelV v u ∧ Rp K H v d) us ds
  | _, _, _, .nil, .nil => .nil
  | _, _, _, .cons r t, .cons h s => .cons ⟨_, r, h⟩ (each_rp t s)
theorem rp_each {K : PySem.W.Frag} {H : Hp} : ∀ {us : List Value} {ds : List D}, PySem.W.EachIs (fun (u : Value) (d : D) => ∃ v, RelV v u ∧ Rp K H v d) us ds → ∃ vs, Vals vs us ∧ RpAll K H vs ds
  | _, _, .nil => ⟨[], .nil, .nil⟩
  | _, _, .cons ⟨v, r, h⟩ t => by
    obtain ⟨vs, h1, h2⟩ := rp_each t
    exact ⟨v :: vs, .cons r h1, .cons h h2⟩
theorem cr_sortD (hu : X.A.units + 64 < cLine) : CallR X (.builtin "sorted") (rSortD X.K) := by
  intro pins s σ H vs us Q I r h
  obtain ⟨O, v, ds, rfl, rv, hp, hal, hk, hL, hdep, q⟩ := h
  cases rv with
  | @lst a xs _ hs ha =>
    rw [Vals.ref1 r]
    obtain ⟨its, n, rv, e, hz⟩ := inv_rdL I (same_rd same_hid hs)
    have el := each_rp rv ha
    have er : PySem.W.EachIs (fun (u : Value) (d : D) => ∃ as, Reads s.heap u (dpy d) as) its ds := by
      refine (PySem.W.each_mem el).mono ?_
      rintro u d ⟨⟨v, r1, r2⟩, hd⟩
      exact Dp.reads I (dpy d) v u (Dp.mono same_hid (r2.dp (plainAll_mem hp hd))) r1
    refine PySem.W.sorted_data (s := s) ⟨_, e, rfl, n, rfl⟩ el er hal hk hL (fun d hd => by have := hdep d hd; omega) fun out ho eo => ?_
    obtain ⟨ys, h1, h2⟩ := rp_each eo
    obtain ⟨ep, he'⟩ := PyProof.Rows.sortedAll_at s.heap its out.toArray
    have hlen : ys.length ≤ sizeLine := by rw [h1.length, ho]; exact hL
    exact ⟨.ref _, upd H (s.heap.objs.size + 1) (.lst ys), I.laid (t' := s.toks) (fun _ _ => PyProof.Rows.sortedAll_old) (Nat.le_succ _) ⟨hlen, out, ep, h1, he'⟩, rfl, q _ ys (I.hok.fresh (Nat.le_succ _)) h2⟩
end
theorem rc_sort {K : PySem.W.Frag} {Φ : D → Prop} {ds : List D} (hp : plainAll ds = true) (hal : PySem.W.AllAlike (ds.map dpy)) (hk : PySem.W.Sortable (ds.map dpy)) (hL : ds.length ≤ sizeLine) (hd : ∀ d ∈ ds, (dpy d).depth ≤ 50) (k : Φ (.lst (sortD ds))) : RCD K (rSortD K) [.lst ds] Φ := fun O H xs Q rs no q => by
  obtain ⟨v, rfl, r⟩ := rs.one
  exact ⟨O, v, ds, rfl, r, hp, hal, hk, hL, hd, fun l ys hl h => q _ _ _ (same_upd_new hl) (.lst (.inl (hid_at (no l hl))) (h.mono (rp_upd (K := K) hl))) k⟩
end L3
/-! L3f: a def's promise over data; methods of own lists. -/
namespace L3
open PySem L2

/-- the slots at a def's entry -/
def rho (N : List Str) (ds : List D) : List SD := ds.map SD.val ++ List.replicate (N.length - ds.length) .un
theorem slots_un {pr : Program} {wd : World} {K : PySem.W.Frag} {O : List Addr} {H : Hp} : ∀ m : Nat, Slots pr wd K O H (List.replicate m none) (List.replicate m .un) []
  | 0 => .nil
  | m + 1 => .un (slots_un m)
theorem slots_start {pr : Program} {wd : World} {K : PySem.W.Frag} {O : List Addr} {H : Hp} {m : Nat} : ∀ {vs : List V} {ds : List D}, RpAll K (hid O H) vs ds → Slots pr wd K O H (vs.map some ++ List.replicate m none) (ds.map SD.val ++ List.replicate m .un) []
  | _, _, .nil => slots_un m
  | _, _, .cons h r => .val h (slots_start r)
section
variable {P : Program} {w : World} {K : PySem.W.Frag} {mg : Str → Option Value} {base : Heap}
/-- THE RULE: a def by its body, over data -/
theorem fn_D {x qual : Str} {st : Stmt} {f : Addr} {fd : FuncData} {N ps : List Str} {k : Nat} {S : Spec} (F : Fun K x qual st f fd) (sc : FnScope N ps (defScope st))
    (len : ∀ bag n ds Φ, S bag n ds Φ → ds.length = ps.length)
    (body : ∀ (cdv : Value) (A : Around) (outer : List PySem.Env) (s : Shared) (H : Hp) (E : XK) (O : List Addr) (bag : Option (Addr × Addr)) (n : Nat) (ds : List D) (Φ : Nat → D → Prop), Room k (A.deeper (PyProof.Rows.envOfC qual (defScope st) s.heap.objs.size f cdv)) → S bag n ds Φ →
      ∃ t, PSs (cxOf CX0 P w K mg base N qual (defScope st) f cdv A outer s H E).nox (defBody st) t ∧ WS ⟨P, w, K, O, bag, H⟩ t (rho N ds) n { nx := fun n' _ => Φ n' .non, rt := Φ }) :
    FnOk P w K mg base CX0 (k + 1) f fd ps (spD K S) := by
  refine F.ok sc (fun vs H Q E h => ?_) (fun cdv A outer s H vs Q E hr h => ?_)
  · obtain ⟨O, bag, n, ds, Φ, _, _, r, hS, _⟩ := h
    rw [r.length]; exact len bag n ds Φ hS
  · obtain ⟨O, bag, n, ds, Φ, hb, hO, r, hS, q⟩ := h
    obtain ⟨t, ht, W⟩ := body cdv A outer s H E O bag n ds Φ hr hS
    refine ⟨t, ht, W (fun _ => none) [] _ H _ ?_ ?_⟩
    · have e : L2.start N vs = vs.map some ++ List.replicate (N.length - ds.length) none := by unfold L2.start; rw [r.length]
      exact { nd := List.nodup_nil, fresh := (fun l hl => nomatch hl), slots := ⟨[], by rw [e]; exact slots_start r, List.Sublist.refl _⟩, lst := (fun l hl => nomatch hl), bag := fun b q e => (hb b q e).1, base := Same.refl _,
              pers := (fun _ _ e => nomatch e), bO := fun b q e => (hb b q e).2, al := hO }
    · exact { nx := fun L n' H' σ ρ E k => q .non .non n' H' E.base (fun b q e => E.bag b q e) .non k,
              rt := fun v d n' H' s j r k => q v d n' H' s j r k, bk := fun _ _ _ _ _ _ k => k.elim, ct := fun _ _ _ _ _ _ k => k.elim }
end

/-! ### an own list's methods -/
section
variable {c : Ctx} {ρ : List SD} {n : Nat} {ta tb te : TE} {t u : TT} {as : TA} {Φ : Nat → D → Prop} {Ψ : Out} {ts us : TS}
/-- at an own slot the list is another one -/
theorem Slots.own_at {pr : Program} {wd : World} {K : PySem.W.Frag} {O : List Addr} {H : Hp} {ds es : List D} : ∀ {σ : List (Option V)} {ρ : List SD} {L : List Addr} {i : Nat}, Slots pr wd K O H σ ρ L → L.Nodup → ρ[i]? = some (.own ds) → ∃ l xs, σ[i]? = some (some (.ref l)) ∧ l ∈ L ∧ H l = some (.lst xs) ∧ RpAll K (hid O H) xs ds ∧
    ∀ (ys : List V), RpAll K (hid O H) ys es → hid O (upd H l (.lst ys)) = hid O H → Slots pr wd K O (upd H l (.lst ys)) σ (ρ.set i (.own es)) L
  | _, _, _, _, .nil, _, e => by simp at e
  | _, _, _, 0, .un _, _, e => by simp at e
  | _, _, _, i + 1, .un s, nd, e => by
    obtain ⟨l, xs, h1, h2, h3, h4, h5⟩ := Slots.own_at (i := i) s nd (by simpa using e)
    exact ⟨l, xs, by simpa using h1, h2, h3, h4, fun ys a b => .un (h5 ys a b)⟩
  | _, _, _, 0, .val _ _, _, e => by simp at e
  | _, _, _, i + 1, .val r s, nd, e => by
    obtain ⟨l, xs, h1, h2, h3, h4, h5⟩ := Slots.own_at (i := i) s nd (by simpa using e)
    exact ⟨l, xs, by simpa using h1, h2, h3, h4, fun ys a b => .val (by rw [b]; exact r) (h5 ys a b)⟩
  | _, _, _, 0, .own h r s, nd, e => by
    simp at e
    subst e
    exact ⟨_, _, rfl, List.mem_cons_self, h, r, fun ys a b => .own upd_same (by rw [b]; exact a) (s.move (fun l hl => upd_ne fun e => (List.nodup_cons.mp nd).1 (by rw [← e]; exact hl)) (by rw [b]; exact Same.refl _))⟩
  | _, _, _, 0, .dic _ _, _, e => by simp at e
  | _, _, _, 0, .dk _ _, _, e => by simp at e
  | _, _, _, 0, .tw _ _, _, e => by simp at e
  | _, _, _, i + 1, .dic h s, nd, e => by
    obtain ⟨l, xs, h1, h2, h3, h4, h5⟩ := Slots.own_at (i := i) s (List.nodup_cons.mp nd).2 (by simpa using e)
    exact ⟨l, xs, by simpa using h1, List.mem_cons_of_mem _ h2, h3, h4, fun ys a b => .dic (h.move (upd_ne fun e => (List.nodup_cons.mp nd).1 (by rw [e]; exact h2)) (by rw [b]; exact Same.refl _)) (h5 ys a b)⟩
  | _, _, _, i + 1, .dk h s, nd, e => by
    obtain ⟨l, xs, h1, h2, h3, h4, h5⟩ := Slots.own_at (i := i) s (List.nodup_cons.mp nd).2 (by simpa using e)
    exact ⟨l, xs, by simpa using h1, List.mem_cons_of_mem _ h2, h3, h4, fun ys a b => .dk (h.move (upd_ne fun e => (List.nodup_cons.mp nd).1 (by rw [e]; exact h2)) (by rw [b]; exact Same.refl _)) (h5 ys a b)⟩
  | _, _, _, i + 1, .tw h s, nd, e => by
    obtain ⟨l, xs, h1, h2, h3, h4, h5⟩ := Slots.own_at (i := i) s (List.nodup_cons.mp nd).2 (by simpa using e)
    exact ⟨l, xs, by simpa using h1, List.mem_cons_of_mem _ h2, h3, h4, fun ys a b => .tw (h.move (upd_ne fun e => (List.nodup_cons.mp nd).1 (by rw [e]; exact h2)) (by rw [b]; exact Same.refl _)) (h5 ys a b)⟩
  | _, _, _, i + 1, .own h r s, nd, e => by
    obtain ⟨l, xs, h1, h2, h3, h4, h5⟩ := Slots.own_at (i := i) s (List.nodup_cons.mp nd).2 (by simpa using e)
    exact ⟨l, xs, by simpa using h1, List.mem_cons_of_mem _ h2, h3, h4, fun ys a b => .own ((upd_ne fun e => (List.nodup_cons.mp nd).1 (by rw [e]; exact h2)).trans h) (by rw [b]; exact r) (h5 ys a b)⟩
theorem Env.own_at {P : Hp} {L : List Addr} {n : Nat} {H : Hp} {σ : List (Option V)} {i : Nat} {ds : List D} (E : Env c P L n H σ ρ) (h : ρ[i]? = some (.own ds)) : ∃ l xs, σ[i]? = some (some (.ref l)) ∧ H l = some (.lst xs) ∧ RpAll c.K (hid (L ++ c.O) H) xs ds ∧
    ∀ (ys : List V) (es : List D), RpAll c.K (hid (L ++ c.O) H) ys es → Env c P L n (upd H l (.lst ys)) σ (ρ.set i (.own es)) ∧ Same (hid c.B c.H0) (hid c.B (upd H l (.lst ys))) := by
  obtain ⟨Ls, sl, sb⟩ := E.slots
  have nd := sb.nodup E.nd
  obtain ⟨l, xs, h1, h2, h3, h4, _⟩ := sl.own_at (es := ds) nd h
  have lL := sb.subset h2
  have hm : l ∈ L ++ c.O := List.mem_append_left _ lL
  have hO : l ∉ c.O := (E.fresh l lL).2
  refine ⟨l, xs, h1, h3, h4, fun ys es hy => ?_⟩
  have bs : Same (hid c.B c.H0) (hid c.B (upd H l (.lst ys))) := same_upd_old (E.fresh l lL).1 E.base
  refine ⟨?_, bs⟩
  obtain ⟨l', xs', g1, g2, g3, g4, g5⟩ := sl.own_at (es := es) nd h
  rw [h1] at g1
  cases g1
  exact { nd := E.nd, fresh := E.fresh, slots := ⟨Ls, g5 ys hy (hid_upd_in hm), sb⟩,
          lst := fun a ha => by
            by_cases e : a = l
            · exact ⟨_, by rw [e, upd_same]⟩
            · rw [upd_ne e]; exact E.lst a ha,
          bag := fun b q hb => (E.bag b q hb).move (fun o h => by rw [upd_ne fun e : b = l => hO (e ▸ (E.bO b q hb).1)]; exact h) fun o h => by rw [upd_ne fun e : q = l => hO (e ▸ (E.bO b q hb).2.1)]; exact h,
          base := bs, pers := by rw [hid_upd_in hm]; exact E.pers, bO := E.bO,
          al := fun o ho => by rw [upd_ne fun e : o = l => hO (e ▸ ho)]; exact E.al o ho }
/-- x.append(e) -/
theorem ws_append {i : Nat} {ds : List D} (h0 : ρ[i]? = some (.own ds)) (h : WE c te ρ n fun n1 d => ds.length < sizeLine ∧ Ψ.nx n1 (ρ.set i (.own (ds ++ [d])))) : WS c (tDrop (tBM c.K "list" rAppend (tVar i) (tCons te tNil))) ρ n Ψ := fun P L σ H Dn E A => by
  obtain ⟨l, xs, h1, h2, h3, h4⟩ := E.own_at h0
  refine ⟨.ref l, h1, .inl ⟨rfl, xs, .inl (.inl h2)⟩, ?_⟩
  refine h P L σ H _ E fun v d n1 H1 s1 j1 r1 ⟨hz, k⟩ => ?_
  have E1 := E.step s1 j1
  obtain ⟨l', ys, g1, g2, g3, g4⟩ := E1.own_at h0
  rw [h1] at g1
  cases g1
  refine ⟨l, ys, v, rfl, rfl, g2, by rw [g3.length]; exact hz, ?_⟩
  exact A.nx L n1 _ σ _ (g4 (ys ++ [v]) (ds ++ [d]) (g3.append (.cons r1 .nil))).1 k
end
end L3
/-! L3g: the operators one by one; loops with a state; short forms. -/
namespace L3
open PySem L2
section
variable {K : PySem.W.Frag} {Φ : D → Prop} {i j : Int}
theorem r2_lt (k : Φ (.bl (decide (i < j)))) : R2D K (rI0 fun i j => .bl (decide (i < j))) (.int i) (.int j) Φ := r2_int0 (h := fun i j => .bl (decide (i < j))) (fun _ _ _ => .bl _) k
theorem r2_le (k : Φ (.bl (decide (i ≤ j)))) : R2D K (rI0 fun i j => .bl (decide (i ≤ j))) (.int i) (.int j) Φ := r2_int0 (h := fun i j => .bl (decide (i ≤ j))) (fun _ _ _ => .bl _) k
theorem r2_gt (k : Φ (.bl (decide (j < i)))) : R2D K (rI0 fun i j => .bl (decide (j < i))) (.int i) (.int j) Φ := r2_int0 (h := fun i j => .bl (decide (j < i))) (fun _ _ _ => .bl _) k
theorem r2_ge (k : Φ (.bl (decide (j ≤ i)))) : R2D K (rI0 fun i j => .bl (decide (j ≤ i))) (.int i) (.int j) Φ := r2_int0 (h := fun i j => .bl (decide (j ≤ i))) (fun _ _ _ => .bl _) k
theorem r2_sub (k : Φ (.int (i - j))) : R2D K (rI0 fun i j => .int (i - j)) (.int i) (.int j) Φ := r2_int0 (h := fun i j => .int (i - j)) (fun _ _ _ => .int _) k
theorem r2_addI (k : Φ (.int (i + j))) : R2D K (rAddD K) (.int i) (.int j) Φ := r2_add rfl k
theorem r2_mulW (hc : CMulW i j) (k : Φ (.int (i * j))) : R2D K (rI CMulW fun i j => .int (i * j)) (.int i) (.int j) Φ := r2_int (h := fun i j => .int (i * j)) (fun _ _ _ => .int _) hc k
theorem r2_mul (hc : CMul i j) (k : Φ (.int (i * j))) : R2D K (rI CMul fun i j => .int (i * j)) (.int i) (.int j) Φ := r2_int (h := fun i j => .int (i * j)) (fun _ _ _ => .int _) hc k
theorem r2_mod (hc : 0 < j) (k : Φ (.int (i % j))) : R2D K (rI (fun _ j => 0 < j) fun i j => .int (i % j)) (.int i) (.int j) Φ := r2_int (h := fun i j => .int (i % j)) (fun _ _ _ => .int _) hc k
theorem r2_fdivW (hc : CDivW i j) (k : Φ (.int (i / j))) : R2D K (rI CDivW fun i j => .int (i / j)) (.int i) (.int j) Φ := r2_int (h := fun i j => .int (i / j)) (fun _ _ _ => .int _) hc k
theorem r2_fdiv (hc : CDiv i j) (k : Φ (.int (i / j))) : R2D K (rI CDiv fun i j => .int (i / j)) (.int i) (.int j) Φ := r2_int (h := fun i j => .int (i / j)) (fun _ _ _ => .int _) hc k
theorem r2_pow (hc : CPow i j) (k : Φ (.int (i ^ j.toNat))) : R2D K (rI CPow fun i j => .int (i ^ j.toNat)) (.int i) (.int j) Φ := r2_int (h := fun i j => .int (i ^ j.toNat)) (fun _ _ _ => .int _) hc k
theorem r2_cat {a b : List D} (h : a.length + b.length ≤ 16777216) (k : Φ (.lst (a ++ b))) : R2D K (rAddD K) (.lst a) (.lst b) Φ := r2_add (if_pos (by rw [sizeLine_eq]; exact h)) k
theorem r2_catT {a b : List D} (h : a.length + b.length ≤ 16777216) (k : Φ (.tup (a ++ b))) : R2D K (rAddD K) (.tup a) (.tup b) Φ := r2_add (if_pos (by rw [sizeLine_eq]; exact h)) k
theorem r2_catS {a b : Str} (h : a.length + b.length ≤ 16777216) (k : Φ (.str (a ++ b))) : R2D K (rAddD K) (.str a) (.str b) Φ := r2_add (if_pos (by rw [sizeLine_eq]; exact h)) k
theorem r2_isN {d : D} (k : Φ (.bl (isNon d))) : R2D K rIsN d .non Φ := fun O H x y Q rx ry _ q => by
  cases ry
  exact ⟨rfl, by rw [isNon_V rx]; exact q _ _ H (Same.refl _) (.bl _) k⟩
theorem r2_notN {d : D} (k : Φ (.bl (!isNon d))) : R2D K rNotN d .non Φ := fun O H x y Q rx ry _ q => by
  cases ry
  exact ⟨rfl, by rw [isNon_V rx]; exact q _ _ H (Same.refl _) (.bl _) k⟩
theorem r2_eqI (k : Φ (.bl (decide (i = j)))) : R2D K (rEqD K) (.int i) (.int j) Φ := r2_eqD rfl rfl (by
  have e : eqD (.int i) (.int j) = decide (i = j) := by
    show (i == j) = decide (i = j)
    by_cases h : i = j <;> simp [h]
  rw [e]; exact k)
theorem r2_neI (k : Φ (.bl (!decide (i = j)))) : R2D K (rNeD K) (.int i) (.int j) Φ := r2_neD rfl rfl (by
  have e : eqD (.int i) (.int j) = decide (i = j) := by
    show (i == j) = decide (i = j)
    by_cases h : i = j <;> simp [h]
  rw [e]; exact k)
end
section
variable {c : Ctx} {ρ : List SD} {n : Nat} {ta tb te : TE} {t u : TT} {as : TA} {Φ : Nat → D → Prop} {Ψ : Out} {ts us : TS}
theorem itT {b : Bool} {A B : Prop} (h : b = true) (k : A) : if b = true then A else B := by rw [if_pos h]; exact k
theorem itF {b : Bool} {A B : Prop} (h : b = false) (k : B) : if b = true then A else B := by rw [if_neg (by rw [h]; exact Bool.false_ne_true)]; exact k
/-- an item of a mapped list -/
theorem map_at {α β : Type} {f : α → β} {l : List α} {i : Nat} {d : β} (h : (l.map f)[i]? = some d) : ∃ a, l[i]? = some a ∧ d = f a ∧ a ∈ l ∧ l.take (i + 1) = l.take i ++ [a] := by
  rw [List.getElem?_map] at h
  cases e : l[i]? with
  | none => rw [e] at h; cases h
  | some a =>
    rw [e] at h
    exact ⟨a, rfl, (Option.some.inj h).symm, List.mem_of_getElem? e, by rw [List.take_succ, e]; rfl⟩
theorem decT {p : Prop} [Decidable p] {A B : Prop} (h : p) (k : A) : if decide p = true then A else B := by rw [if_pos (decide_eq_true h)]; exact k
theorem decF {p : Prop} [Decidable p] {A B : Prop} (h : ¬ p) (k : B) : if decide p = true then A else B := by rw [if_neg (by simpa using h)]; exact k
theorem dec2 {p : Prop} [Decidable p] {A B : Prop} (h1 : p → A) (h2 : ¬ p → B) : if decide p = true then A else B := by
  by_cases h : p
  · exact decT h (h1 h)
  · exact decF h (h2 h)
theorem decN {p : Prop} [Decidable p] {A B : Prop} (h1 : ¬ p → A) (h2 : p → B) : if (!decide p) = true then A else B := by
  by_cases h : p
  · rw [if_neg (by simpa using h)]; exact h2 h
  · rw [if_pos (by simpa using h)]; exact h1 h
theorem boo2 {b : Bool} {A B : Prop} (h1 : b = true → A) (h2 : b = false → B) : if b = true then A else B := by
  cases b
  · rw [if_neg Bool.false_ne_true]; exact h2 rfl
  · rw [if_pos rfl]; exact h1 rfl
theorem booN {b : Bool} {A B : Prop} (h1 : b = false → A) (h2 : b = true → B) : if (!b) = true then A else B := by
  cases b with
  | false => show (if true = true then A else B); rw [if_pos rfl]; exact h1 rfl
  | true => show (if false = true then A else B); rw [if_neg Bool.false_ne_true]; exact h2 rfl
theorem filt_all {α : Type} (l : List α) : l.filter (fun _ => true) = l := by simp
/-- a comprehension as map and filter: f the element, p the test, of data that the turn knows -/
theorem wf_map {wi : TI} {g : TG} {vs : List Nat} {Φ : Nat → List D → Prop} (f : D → D) (p : D → Bool)
    (h : WI c wi ρ n fun n1 ds => ds.length ≤ 1000000 ∧ (∀ d ∈ ds, ∀ m, WG c (RW vs) g d (wipeR ρ vs) m fun ρ2 => WT c t ρ2 m fun m2 b => m2 = m ∧ b = p d ∧ (b = true → WE c te ρ2 m fun m3 y => m3 = m ∧ y = f d)) ∧ Φ n1 ((ds.filter p).map f)) : WF c (tLc wi g t te vs) ρ n Φ := by
  refine wf_lc ?_
  intro P L σ H R E q
  refine h P L σ H R E fun J ds n' H' s j it ⟨hz, hs, kk⟩ => q J ds n' H' s j it ?_
  refine ⟨fun k m acc => m = n' ∧ acc = ((ds.take k).filter p).map f, ⟨rfl, rfl⟩, ?_, ?_⟩
  · rintro k m acc d hd ⟨e1, e2⟩
    subst e1; subst e2
    have hk : k < ds.length := (List.getElem?_eq_some_iff.mp hd).1
    have ek : ds[k] = d := (List.getElem?_eq_some_iff.mp hd).2
    have tk : ds.take (k + 1) = ds.take k ++ [d] := by rw [List.take_succ, hd]; rfl
    intro P2 L2 σ2 H2 v2 Q2 E2 r2 q2
    refine hs d (List.mem_of_getElem? hd) m P2 L2 σ2 H2 v2 Q2 E2 r2 fun σ3 ρ3 E3 hw hT => q2 σ3 ρ3 E3 hw ?_
    refine hT.mono fun m2 b ⟨e1, e2, he⟩ => ?_
    subst e1
    cases b with
    | true =>
      rw [if_pos rfl]
      refine (he rfl).mono fun m3 y ⟨e3, e4⟩ => ?_
      subst e3; subst e4
      refine ⟨?_, rfl, ?_⟩
      · have h1 : (List.map f (List.filter p (List.take k ds))).length ≤ ds.length := by
          rw [List.length_map]
          exact Nat.le_trans (List.length_filter_le _ _) (by rw [List.length_take]; omega)
        exact Nat.lt_of_le_of_lt (Nat.le_trans h1 hz) (by decide)
      · rw [tk, List.filter_append, List.map_append]
        simp [← e2]
    | false =>
      rw [if_neg Bool.false_ne_true]
      refine ⟨rfl, ?_⟩
      rw [tk, List.filter_append, List.map_append]
      simp [← e2]
  · rintro m acc ⟨e1, e2⟩
    subst e1; subst e2
    rw [List.take_length]
    exact kk
end
end L3
/-! L3h: the rules with the written part K said (within comprehensions it must not hang on the block). -/
namespace L3
open PySem L2
section
variable {X : Cx} (K : PySem.W.Frag)
theorem x_eq (hu : X.A.units + 64 < cLine) (hK : X.K = K := by rfl) : OpR X (compareOp .Eq) (rEqD K) := hK ▸ op_eqD hu
theorem x_ne (hu : X.A.units + 64 < cLine) (hK : X.K = K := by rfl) : OpR X (compareOp .NotEq) (rNeD K) := hK ▸ op_neD hu
theorem x_in (hu : X.A.units + 65 < cLine) (hK : X.K = K := by rfl) : OpR X (compareOp .In) (rInS K false) := hK ▸ op_inSeq hu
theorem x_notIn (hu : X.A.units + 65 < cLine) (hK : X.K = K := by rfl) : OpR X (compareOp .NotIn) (rInS K true) := hK ▸ op_notInSeq hu
theorem x_add (hK : X.K = K := by rfl) : OpR X (binaryOp .Add) (rAddD K) := hK ▸ op_addD
theorem x_ix (hK : X.K = K := by rfl) : IxR X (rIx K) := hK ▸ ix_seq
theorem x_sl (hK : X.K = K := by rfl) : SlR X (rSlS3 K) := hK ▸ sl_seq
theorem x_len (hK : X.K = K := by rfl) : CallR X (.builtin "len") (rLenD K) := hK ▸ call_lenX
theorem x_list (hK : X.K = K := by rfl) : CallR X (.type "list") (rListD K) := hK ▸ call_listX
theorem x_tup (hK : X.K = K := by rfl) : CallR X (.type "tuple") (rTupD K) := hK ▸ call_tupX
theorem x_sum (hc : X.calm = true := by rfl) (hK : X.K = K := by rfl) : CallR X (.builtin "sum") (rSum K) := hK ▸ cr_sum hc
theorem x_max (hc : X.calm = true := by rfl) (hK : X.K = K := by rfl) : CallR X (.builtin "max") (rMax K) := hK ▸ cr_max hc
theorem x_min (hc : X.calm = true := by rfl) (hK : X.K = K := by rfl) : CallR X (.builtin "min") (rMin K) := hK ▸ cr_min hc
theorem x_any (hc : X.calm = true := by rfl) (hK : X.K = K := by rfl) : CallR X (.builtin "any") (rAny K) := hK ▸ cr_any hc
theorem x_all (hc : X.calm = true := by rfl) (hK : X.K = K := by rfl) : CallR X (.builtin "all") (rAll K) := hK ▸ cr_all hc
theorem x_sorted (hu : X.A.units + 64 < cLine) (hK : X.K = K := by rfl) : CallR X (.builtin "sorted") (rSortD K) := hK ▸ cr_sortD hu
theorem x_isi (hK : X.K = K := by rfl) : CallR X (.builtin "isinstance") (rIsi K) := hK ▸ call_isi
theorem x_seq {tg l : Expr} {tl : TE} (hl : PE X l tl) (hK : X.K = K := by rfl) : PI X tg l (iSeq K tl) := hK ▸ pi_seq hl
theorem x_enum {e : Expr} {ta : TA} {p pos tpos : Pos} {elts : List Expr} {kk : Nat} (hg : Gl X "enumerate") (hm : X.mg "enumerate" = none) (ha : PA X [e] ta) (hs : starEach [e] X.env = [(false, eval e X.env)] := by rfl) (hK : X.K = K := by rfl) :
    PI X (.Tuple elts kk tpos) (.Call (.Name "enumerate" p) [e] [] pos) (iEnum K ta) := hK ▸ pi_enum hg hm ha hs
theorem x_tgt {m : Nat} {target : Expr} {t : TGs} (h : PG X target (gTup X.K m t)) (hK : X.K = K := by rfl) : PG X target (gTup K m t) := hK ▸ h
end
end L3
/-! L3i: own dicts whose keys are tuples. -/
namespace L3
open PySem L2
section
variable {X : Cx} {pins : List (Addr × Obj)} {σ : L2.St} {H : Hp} {s : Shared}
mutual
theorem nk_is (I : Inv X pins σ H s) {O : List Addr} : ∀ (d : D) (v : V) (u : Value), Rp X.K (hid O H) v d → RelV v u → nkOk d = true → NestedIs s.heap (nk d) u
  | .non, _, _, h, r, _ => by cases h; cases r; exact .none
  | .int i, _, _, h, r, _ => by cases h; obtain ⟨t, rfl⟩ := r; exact .int i t
  | .str x, _, _, h, r, _ => by cases h; obtain ⟨t, rfl⟩ := r; exact .text x t
  | .tup ds, _, _, h, r, k => by
    cases h with
    | tup hs ha =>
      cases r
      obtain ⟨its, rv, ⟨o, ho, hc, n, hd⟩, _⟩ := I.tuple (same_t same_hid hs)
      exact .tup ho hc hd (by rw [List.toList_toArray]; exact nk_all I ds _ its ha rv k)
  | .bl _, _, _, _, _, k => nomatch k
  | .lst _, _, _, _, _, k => nomatch k
  | .obj _ _, _, _, _, _, k => nomatch k
  | .adr _, _, _, _, _, k => nomatch k
  | .ty _, _, _, _, _, k => nomatch k
  | .dct _, _, _, _, _, k => nomatch k
  | .dcn _ _ _, _, _, _, _, k => nomatch k
theorem nk_all (I : Inv X pins σ H s) {O : List Addr} : ∀ (ds : List D) (vs : List V) (us : List Value), RpAll X.K (hid O H) vs ds → Vals vs us → nkOkAll ds = true → NestedAll s.heap (nkAll ds) us
  | [], _, _, h, r, _ => by cases h; cases r; exact .nil
  | d :: ds, _, _, h, r, k => by
    have h' : (nkOk d && nkOkAll ds) = true := k
    rw [Bool.and_eq_true] at h'
    cases h with
    | cons h1 h2 =>
      cases r with
      | cons r1 r2 => exact .cons (nk_is I d _ _ h1 r1 h'.1) (nk_all I ds _ _ h2 r2 h'.2)
end
theorem key_is (I : Inv X pins σ H s) {O : List Addr} {v : V} {d : D} {u : Value} (h : Rp X.K (hid O H) v d) (r : RelV v u) (k : keyD d = true) : ∃ a, v = .ref a ∧ u = .ref a ∧ (nestedKind X.prog X.w).is s.heap (nk d) a := by
  cases h with
  | @tup a xs ds hs ha =>
    have k' : (nkOkAll ds && decide ((nk (.tup ds)).depth ≤ 8)) = true := k
    rw [Bool.and_eq_true] at k'
    have q := nk_is I _ _ _ (.tup hs ha) r k'.1
    cases r
    exact ⟨a, rfl, rfl, q, of_decide_eq_true k'.2⟩
  | _ => cases k
end
def lookD (kvs : List (D × D)) (k : D) : Option D := (kvs.find? fun kv => decide (nk kv.1 = nk k)).map (·.2)
def putD (kvs : List (D × D)) (k v : D) : List (D × D) := if (lookD kvs k).isSome then kvs.map fun kv => if nk kv.1 = nk k then (kv.1, v) else kv else kvs ++ [(k, v)]
section
variable {K : PySem.W.Frag} {H : Hp}
theorem ent_look {kd : D} : ∀ {kvs : List (D × D)} {xs : List (NestedKey × Addr × Value)}, Paired (EntD K H) kvs xs →
    (lookD kvs kd = none ∧ atKey xs (nk kd) = none) ∨ ∃ v a u w, lookD kvs kd = some v ∧ atKey xs (nk kd) = some (a, u) ∧ RelV w u ∧ Rp K H w v
  | _, _, .nil => .inl ⟨rfl, rfl⟩
  | kv :: kvs, x :: xs, .cons h t => by
    obtain ⟨h1, h2, h3, w, h4, h5⟩ := h
    by_cases e : nk kv.1 = nk kd
    · right
      refine ⟨kv.2, x.2.1, x.2.2, w, ?_, ?_, h4, h5⟩
      · unfold lookD; rw [List.find?_cons_of_pos (by simpa using e)]; rfl
      · unfold atKey; rw [List.find?_cons_of_pos (by simpa [h2] using e)]; rfl
    · have r := ent_look (kd := kd) t
      have e1 : lookD (kv :: kvs) kd = lookD kvs kd := by unfold lookD; rw [List.find?_cons_of_neg (by simpa using e)]
      have e2 : atKey (x :: xs) (nk kd) = atKey xs (nk kd) := by unfold atKey; rw [List.find?_cons_of_neg (by simpa [h2] using e)]
      rw [e1, e2]; exact r
theorem ent_len : ∀ {kvs : List (D × D)} {xs : List (NestedKey × Addr × Value)}, Paired (EntD K H) kvs xs → kvs.length = xs.length
  | _, _, .nil => rfl
  | _, _, .cons _ t => by rw [List.length_cons, List.length_cons, ent_len t]
theorem ent_map {kd vd : D} {u : Value} {w : V} (r : RelV w u) (rw' : Rp K H w vd) : ∀ {kvs : List (D × D)} {xs : List (NestedKey × Addr × Value)}, Paired (EntD K H) kvs xs →
    Paired (EntD K H) (kvs.map fun kv => if nk kv.1 = nk kd then (kv.1, vd) else kv) (xs.map (putAt (nk kd) u))
  | _, _, .nil => .nil
  | kv :: kvs, x :: xs, .cons h t => by
    refine .cons ?_ (ent_map r rw' t)
    obtain ⟨h1, h2, h3, h4⟩ := h
    unfold putAt
    show EntD K H (if nk kv.1 = nk kd then (kv.1, vd) else kv) _
    by_cases e : nk kv.1 = nk kd
    · rw [if_pos e, if_pos (by rw [h2]; exact e)]
      exact ⟨h1, h2, h3, w, r, rw'⟩
    · rw [if_neg e, if_neg (by rw [h2]; exact e)]
      exact ⟨h1, h2, h3, h4⟩
theorem paired_app {α β : Type} {R : α → β → Prop} {a : α} {b : β} (h : R a b) : ∀ {xs : List α} {ys : List β}, Paired R xs ys → Paired R (xs ++ [a]) (ys ++ [b])
  | _, _, .nil => .cons h .nil
  | _, _, .cons q t => .cons q (paired_app h t)
theorem ent_put {kd vd : D} {a : Addr} {u : Value} {w : V} (hk : keyD kd = true) (ra : Rp K H (.ref a) kd) (r : RelV w u) (rw' : Rp K H w vd) {kvs : List (D × D)} {xs : List (NestedKey × Addr × Value)} (h : Paired (EntD K H) kvs xs) :
    Paired (EntD K H) (putD kvs kd vd) (storedH xs (nk kd) a u) := by
  unfold putD storedH
  rcases ent_look (kd := kd) h with ⟨e1, e2⟩ | ⟨v, a', u', w', e1, e2, _⟩
  · rw [e1, e2, if_neg (by simp), if_neg (by simp)]
    exact paired_app ⟨hk, rfl, ra, w, r, rw'⟩ h
  · rw [e1, e2]
    exact ent_map r rw' h
theorem putD_len (kvs : List (D × D)) (k v : D) : (putD kvs k v).length ≤ kvs.length + 1 := by
  unfold putD
  split
  · rw [List.length_map]; omega
  · rw [List.length_append]; exact Nat.le_refl _
end
section
variable {X : Cx} {pins : List (Addr × Obj)} {σ : L2.St} {H : Hp} {s : Shared}
theorem nd_of (I : Inv X pins σ H s) {O : List Addr} {l : Addr} {kvs : List (D × D)} {xs : List (NestedKey × Addr × Value)} (h1 : H l = some (.ext (DictBare X.prog X.w xs l))) (h3 : Paired (EntD X.K (hid O H)) kvs xs) : s.heap.DictOfH (nestedKind X.prog X.w) l xs := by
  obtain ⟨⟨o, es, ep, e1, e2, e3, e4, e5⟩, _⟩ := I.hok l _ h1
  refine ⟨o, es, ep, e1, e2, e3, e4, fun x hx => ?_, e5⟩
  have key : ∀ {kvs : List (D × D)} {xs : List (NestedKey × Addr × Value)}, Paired (EntD X.K (hid O H)) kvs xs → x ∈ xs → (nestedKind X.prog X.w).is s.heap x.1 x.2.1 := by
    intro kvs xs h
    induction h with
    | nil => intro q; cases q
    | cons h t ih =>
      intro q
      rcases List.mem_cons.mp q with q | q
      · subst q
        obtain ⟨g1, g2, g3, _⟩ := h
        obtain ⟨a, ea, eb, is⟩ := key_is I g3 rfl g1
        cases eb
        rw [g2]; exact is
      · exact ih q
  exact key h3 hx
theorem bare_ok {xs : List (NestedKey × Addr × Value)} {l : Addr} {h' : Heap} {pr : Program} {wd : World} {Hq : Hp} (b : DictBare pr wd xs l h') : ObjOk pr wd Hq h' l (.ext (DictBare pr wd xs l)) := by
  obtain ⟨o, es, ep, e1, r⟩ := id b
  exact ⟨b, ⟨o, e1⟩, fun h1 h2 ⟨o, es, ep, q1, q2⟩ k => ⟨o, es, ep, k o q1, q2⟩⟩
end
/-! ### the rules -/
def tDNewN (pr : Program) (wd : World) : TE := fun _ H Q => ∀ p, H p = none → (p == sysModules) = false → Q (.ref p) (upd H p (.ext (DictBare pr wd [] p)))
def rIxN (pr : Program) (wd : World) (K : PySem.W.Frag) : R2 := fun x y H Q => ∃ (O : List Addr) (l : Addr) (kvs : List (D × D)) (kd v : D), x = .ref l ∧ NDict pr wd K O H l kvs ∧ Rp K (hid O H) y kd ∧ keyD kd = true ∧ lookD kvs kd = some v ∧ ∀ u, Rp K (hid O H) u v → Q u H
def tGetN (pr : Program) (wd : World) (K : PySem.W.Frag) (td ty tx : TE) : TE := fun σ H Q => td σ H fun x H1 => ∃ l, x = .ref l ∧ (∃ O kvs, NDict pr wd K O H1 l kvs) ∧ ty σ H1 fun y H2 => tx σ H2 fun z H3 => ∃ (O : List Addr) (kvs : List (D × D)) (kd : D), NDict pr wd K O H3 l kvs ∧ Rp K (hid O H3) y kd ∧ keyD kd = true ∧
  (∀ v u, lookD kvs kd = some v → Rp K (hid O H3) u v → Q u H3) ∧ (lookD kvs kd = none → Q z H3)
def rSetN (pr : Program) (wd : World) (K : PySem.W.Frag) : TSet := fun o i v H Q => ∃ (O : List Addr) (l : Addr) (kvs : List (D × D)) (kd vd : D), o = .ref l ∧ l ∈ O ∧ NDict pr wd K O H l kvs ∧ Rp K (hid O H) i kd ∧ keyD kd = true ∧ Rp K (hid O H) v vd ∧ kvs.length < sizeLine ∧
  ∀ φ, NDict pr wd K O (upd H l (.ext φ)) l (putD kvs kd vd) → Q (upd H l (.ext φ))
def rSortN (pr : Program) (wd : World) (K : PySem.W.Frag) : List V → Hp → VK → Prop := fun vs H Q => ∃ (O : List Addr) (l : Addr) (kvs : List (D × D)), vs = [.ref l] ∧ NDict pr wd K O H l kvs ∧ plainAll (kvs.map (·.1)) = true ∧ PySem.W.AllAlike ((kvs.map (·.1)).map dpy) ∧ PySem.W.Sortable ((kvs.map (·.1)).map dpy) ∧ kvs.length ≤ sizeLine ∧
  (∀ d ∈ kvs.map (·.1), (dpy d).depth ≤ 50) ∧ ∀ p ys, H p = none → RpAll K (hid O H) ys (sortD (kvs.map (·.1))) → Q (.ref p) (upd H p (.lst ys))
section
variable {X : Cx} (pr : Program) (wd : World) (K : PySem.W.Frag)
theorem sys_lt {X : Cx} {pins : List (Addr × Obj)} {σ : L2.St} {H : Hp} {s : Shared} (I : Inv X pins σ H s) : (s.heap.objs.size == sysModules) = false := by
  have := I.big
  simp only [beq_eq_false_iff_ne, ne_eq]
  intro e
  exact absurd this (by rw [e]; exact Nat.lt_irrefl _)
theorem pe_dnewN {pos : Pos} (hp : X.prog = pr := by rfl) (hw : X.w = wd := by rfl) : PE X (.Dict [] [] pos) (tDNewN pr wd) := by
  subst hp; subst hw
  refine ⟨fun pins s σ H Q I h => ?_⟩
  refine wpAny_Dict_empty ⟨.ref s.heap.objs.size, _, I.laid (a := s.heap.objs.size) (o := .ext (DictBare X.prog X.w [] s.heap.objs.size)) (t' := s.toks) (fun _ _ q => Heap.get?_push_of_some _ q) (Nat.le_refl _) (bare_ok ?_), rfl, h _ (I.hok.fresh (Nat.le_refl _)) (sys_lt I)⟩
  obtain ⟨o, es, ep, e1, e2, e3, e4, _, e5⟩ := Heap.DictOfH.new (knd := nestedKind X.prog X.w) s.heap
  exact ⟨o, es, ep, e1, e2, e3, e4, e5⟩
theorem x_ixN (hu : X.A.units + 64 < cLine) (hp : X.prog = pr := by rfl) (hw : X.w = wd := by rfl) (hK : X.K = K := by rfl) : IxR X (rIxN pr wd K) := by
  subst hp; subst hw; subst hK
  intro value slice pins s σ H x y v u Q I rx ry h hs
  obtain ⟨O, l, kvs, kd, vd, rfl, ⟨xs, n1, n2, n3⟩, rk, hk, hl, q⟩ := h
  cases rx
  obtain ⟨a, ea, eb, is⟩ := key_is I rk ry hk
  subst eb
  have dd := nd_of I n1 n3
  rcases ent_look (kd := kd) n3 with ⟨e1, _⟩ | ⟨v', a', u', w, e1, e2, e3, e4⟩
  · rw [e1] at hl; cases hl
  · rw [e1] at hl
    cases hl
    refine PyProof.Rows.tail_any dd.typeIs PySem.F.slot_dict_getitem.lookup ?_ hs
    exact wpAny_getItem_heap (by show X.A.in1.units + 8 < cLine; have : X.A.in1.units = X.A.units + 1 := rfl; omega) is dd e2 ⟨w, H, I.tok _, e3, q w e4⟩
theorem x_setN (hu : X.A.units + 64 < cLine) (hp : X.prog = pr := by rfl) (hw : X.w = wd := by rfl) (hK : X.K = K := by rfl) : PSet X (rSetN pr wd K) := by
  subst hp; subst hw; subst hK
  intro pins s σ H o i v ov iv u Q I ro ri rv h
  obtain ⟨O, l, kvs, kd, vd, rfl, lO, ⟨xs, n1, n2, n3⟩, rk, hk, rvd, hz, q⟩ := h
  cases ro
  obtain ⟨a, ea, eb, is⟩ := key_is I rk ri hk
  subst eb
  have dd := nd_of I n1 n3
  refine wpAny_setItem_heap (hsz := by rw [← ent_len n3]; exact Nat.le_of_lt hz) (by show X.A.in1.units + 8 < cLine; have : X.A.in1.units = X.A.units + 1 := rfl; omega) is dd fun h' dd' hs => ?_
  obtain ⟨o, es, ep, e1, e2, e3, e4, _, e5⟩ := dd'
  have bb : DictBare X.prog X.w (storedH xs (nk kd) a u) l h' := ⟨o, es, ep, e1, e2, e3, e4, e5⟩
  refine ⟨_, d_write I (by rw [n1]; exact True.intro) hs ⟨o, e1⟩ (bare_ok bb), q _ ?_⟩
  subst ea
  refine ⟨_, upd_same, n2, ?_⟩
  rw [hid_upd_in lO]
  exact ent_put hk rk rv rvd n3
theorem pe_getN {o e f : Expr} {apos cpos : Pos} {td ty tx : TE} (hu : X.A.units + 64 < cLine) (ho : PE X o td) (he : PE X e ty) (hf : PE X f tx) (m : M2 X o "get" apos e f cpos) (hp : X.prog = pr := by rfl) (hw : X.w = wd := by rfl) (hK : X.K = K := by rfl) :
    PE X (.Call (.Attribute o "get" apos) [e, f] [] cpos) (tGetN pr wd K td ty tx) := by
  subst hp; subst hw; subst hK
  refine ⟨fun pins s σ H Q I h => ?_⟩
  refine wpAny_Call_method m.base m.few m.line PySem.F.plainAttrs_dict PySem.F.slot_dict_get PySem.F.type_dict_get (thn (ho.run pins s σ H _ I h) fun u s1 ⟨x, H1, I1, rx, l, ex, ⟨O, kvs, xs, n1, n2, n3⟩, q1⟩ => ?_)
  subst ex
  obtain rfl : u = Value.ref l := rx
  have dd := nd_of I1 n1 n3
  refine ⟨dd.typeIs, fun b eb => ?_, ?_⟩
  · cases eb
    obtain ⟨o, es, ep, e1, e2, _⟩ := dd
    exact ⟨o, e1, e2.2.1⟩
  rw [m.trees]
  refine Calls.callWith_builtin rfl (Calls.evalArgs_plain (Calls.spliced_cons (thn (he.run pins s1 σ H1 _ I1 q1) fun iv s2 ⟨y, H2, I2, ry, q2⟩ =>
    Calls.spliced_cons (thn (hf.run pins s2 σ H2 _ I2 q2) fun fv s3 ⟨z, H3, I3, rz, O3, kvs3, kd, ⟨xs3, m1, m2, m3⟩, rk, hk, qs, qn⟩ => Calls.spliced_nil ?_))))
  obtain ⟨a, ea, eb, is⟩ := key_is I3 rk ry hk
  subst eb
  have dd3 := nd_of I3 m1 m3
  refine call_meetsIn PySem.F.slot_dict_get dd3.typeIs PySem.F.entry_dict_get (PySem.F.args_dict_get_3 _ _ _) (meetsH_dict_get_default (nestedKind X.prog X.w) l a m2 fv) ⟨by show X.A.in1.units + 8 < cLine; have : X.A.in1.units = X.A.units + 1 := rfl; omega, nk kd, xs3, is, dd3, ?_⟩
  rcases ent_look (kd := kd) m3 with ⟨e1, e2⟩ | ⟨v', a', u', w, e1, e2, e3, e4⟩
  · rw [e2]
    exact ⟨z, H3, I3.tok _, rz, qn e1⟩
  · rw [e2]
    exact ⟨w, H3, I3.tok _, e3, qs v' w e1 e4⟩
end
end L3
/-! L3j: sorted(d); the rules of own dicts over data; count. -/
namespace L3
open PySem L2 PySem.W PyProof.Rows PySem.Calls PyProof.V
section
variable {prog : Program} {w : World} {A : Around} {E : Value → Shared → Prop} {s : Shared}
theorem sorted_dictH {β : Type} {R : Value → β → Prop} {enc : β → PyData} {bs : List β} {d : Addr} {es : Array DictEntry} {ep : Nat} {Q : Value → Shared → Prop} (hh : A.handled = none) (lo : (d == sysModules) = false) (hD : s.heap.DictRaw d es ep)
    (e : EachIs R (es.toList.map (·.key)) bs) (er : EachIs (fun v b => ∃ as, Reads s.heap v (enc b) as) (es.toList.map (·.key)) bs) (hal : AllAlike (bs.map enc)) (hk : Sortable (bs.map enc)) (hL : bs.length ≤ sizeLine)
    (hu : ∀ b, b ∈ bs → A.units + 2 + (enc b).depth < cLine)
    (h : ∀ (h1 h2 : Heap) (tk : Nat) (out : List Value) (c : Nat), (∀ b o, s.heap.get? b = some o → h1.get? b = some o) → (∀ b o, h1.get? b = some o → h2.get? b = some o) → h2.get? h1.objs.size = some { cls := .type "list", data := .seq out.toArray c } → out.length = bs.length → EachIs R out (bs.mergeSort (dataLe false enc)) → Q (.ref h1.objs.size) { s with heap := h2, toks := tk }) :
    wpAny (model prog w) A (call (.builtin "sorted") [.ref d]) Q E s := by
  have hn : es.size ≤ sizeLine := by
    have q := e.length
    rw [List.length_map, Array.length_toList] at q
    omega
  refine call_function_entry kind_sorted plain_sorted entry_sorted (args_sorted1 _) ?_
  unfold Builtin.«sorted»
  refine wpAny_bind (m := checkCount "sorted" 1 1 _) (wpAny_pure ?_)
  refine wpAny_bind (kdu_collect (A := A.in1) (KdlSrc.rawDict lo) hh hD hn fun h' tk acc hkp hacc => ?_)
  have hl : acc.toList = es.toList.map (·.key) := by
    apply List.ext_getElem?
    intro j
    by_cases hj : j < acc.size
    · obtain ⟨hi, hv⟩ := hacc.2 j acc[j] (by simp [hj])
      rw [Array.getElem?_toList, Array.getElem?_eq_getElem hj, List.getElem?_map, Array.getElem?_toList, Array.getElem?_eq_getElem hi, hv]; rfl
    · have hs : acc.size = es.size := hacc.1
      rw [Array.getElem?_toList, Array.getElem?_eq_none (by omega), List.getElem?_map, Array.getElem?_toList, Array.getElem?_eq_none (by omega)]; rfl
  have hz : acc.toList.length ≤ sizeLine := by rw [Array.length_toList, hacc.1]; exact hn
  refine wpAny_bind (wpAny_newList ?_ hz)
  rw [hl] at hz ⊢
  generalize hvs : es.toList.map (·.key) = vs at e er hz ⊢
  have ho : (h'.push { cls := .type "list", data := .seq vs.toArray }).get? h'.objs.size = some (seqObj "list" vs.toArray 0) := Heap.get?_push_size _ rfl
  have old : ∀ b o, s.heap.get? b = some o → (sortingHeap (h'.push { cls := .type "list", data := .seq vs.toArray }) h'.objs.size vs).get? b = some o := fun b o q =>
    sortingHeap_old (Nat.ne_of_lt (Heap.lt_size (hkp b o q))) (Heap.get?_push_of_some _ (hkp b o q))
  have er' : EachIs (fun v b => ∃ as, Reads (sortingHeap (h'.push { cls := .type "list", data := .seq vs.toArray }) h'.objs.size vs) v (enc b) as) vs bs := er.mono fun _ _ ⟨as, r⟩ => ⟨as, PyProof.Rows.Reads.keeps old r⟩
  refine wpAny_bind (wpAny_holding ?_)
  refine wpAny_call_entry slot_list_sort ⟨_, ho, rfl⟩ entry_list_sort (list_sort_vals (κ := dataKind (sortingHeap (h'.push { cls := .type "list", data := .seq vs.toArray }) h'.objs.size vs) (bs.map enc)) ho (SortsAt.data (s := { s with heap := sortingHeap (h'.push { cls := .type "list", data := .seq vs.toArray }) h'.objs.size vs, toks := tk }) (each_map (R := fun v d => ∃ as, Reads (sortingHeap (h'.push { cls := .type "list", data := .seq vs.toArray }) h'.objs.size vs) v d as) enc er') hal hk (bound_map hu)) (by rw [e.length]; exact hL) ⟨.none, rfl, ?_⟩) (args_list_sort _)
  obtain ⟨c, hc⟩ := sortedHeap_at (out := (sortVals (dataKind (sortingHeap (h'.push { cls := .type "list", data := .seq vs.toArray }) h'.objs.size vs) (bs.map enc)) false vs vs).toArray) ho
  refine wpAny_pure ⟨_, rfl, h h' _ tk _ c hkp ?_ hc (by rw [sortVals_length false rfl]; exact e.length) (sortVals_data false e er' hal)⟩
  intro b o q
  rw [sortedHeap_old (Nat.ne_of_lt (Heap.lt_size q)) (Nat.lt_of_lt_of_le (Heap.lt_size q) (by rw [Heap.size_push]; exact Nat.le_succ _))]
  exact Heap.get?_push_of_some _ q
end
section
variable {X : Cx} (pr : Program) (wd : World) (K : PySem.W.Frag)
theorem ent_keys {K : PySem.W.Frag} {H : Hp} : ∀ {kvs : List (D × D)} {xs : List (NestedKey × Addr × Value)}, Paired (EntD K H) kvs xs → EachIs (fun (u : Value) (d : D) => ∃ v, RelV v u ∧ Rp K H v d) (xs.map fun x => Value.ref x.2.1) (kvs.map (·.1))
  | _, _, .nil => .nil
  | _, _, .cons (a := kv) (b := x) h t => .cons ⟨V.ref x.2.1, rfl, h.2.2.1⟩ (ent_keys t)
theorem x_sortN (hu : X.A.units + 64 < cLine) (hcalm : X.calm = true := by rfl) (hp : X.prog = pr := by rfl) (hw : X.w = wd := by rfl) (hK : X.K = K := by rfl) : CallR X (.builtin "sorted") (rSortN pr wd K) := by
  subst hp; subst hw; subst hK
  intro pins s σ H vs us Q I r h
  obtain ⟨O, l, kvs, rfl, ⟨xs, n1, n2, n3⟩, hpl, hal, hk, hL, hdep, q⟩ := h
  rw [Vals.ref1 r]
  obtain ⟨⟨o, es, ep, e1, e2, e3, e4, e5⟩, _⟩ := I.hok l _ n1
  have el := ent_keys n3
  have ek : es.toList.map (·.key) = xs.map fun x => Value.ref x.2.1 := by rw [e4, List.map_map]; rfl
  have er : EachIs (fun (u : Value) (d : D) => ∃ as, Reads s.heap u (dpy d) as) (xs.map fun x => Value.ref x.2.1) (kvs.map (·.1)) := by
    refine (each_mem el).mono ?_
    rintro u d ⟨⟨v, r1, r2⟩, hd⟩
    exact Dp.reads I (dpy d) v u (Dp.mono same_hid (r2.dp (plainAll_mem hpl hd))) r1
  refine sorted_dictH (s := s) (I.ok.hd hcalm) n2 ⟨o, e1, e2, e3⟩ (by rw [ek]; exact el) (by rw [ek]; exact er) hal hk (by rw [List.length_map]; exact hL) (fun d hd => by have := hdep d hd; omega) fun h1 h2 tk out c k1 k2 hc ho eo => ?_
  obtain ⟨ys, g1, g2⟩ := rp_each eo
  have hlen : ys.length ≤ sizeLine := by rw [g1.length, ho, List.length_map]; exact hL
  have I1 : Inv X pins σ H { s with heap := h1 } := I.kept (t' := s.toks) k1
  exact ⟨.ref _, upd H h1.objs.size (.lst ys), I1.laid (t' := tk) k2 (Nat.le_refl _) ⟨hlen, out, c, g1, hc⟩, rfl, q _ ys (I1.hok.fresh (Nat.le_refl _)) g2⟩
/-- list.count of data -/
def rCountD (K : PySem.W.Frag) : V → List V → Hp → VK → Prop := fun x vs H Q => ∃ (O : List Addr) (y : V) (ds : List D) (d : D), vs = [y] ∧ Rp K (hid O H) x (.lst ds) ∧ Rp K (hid O H) y d ∧ fit d = true ∧ fit (.lst ds) = true ∧ Q (.int ((ds.countP fun z => eqD z d : Nat) : Int)) H
theorem countP_map {α β : Type} (f : α → β) (p : β → Bool) (l : List α) : (l.map f).countP p = l.countP (p ∘ f) := by rw [List.countP_map]
theorem x_count (hu : X.A.units + 65 < cLine) (hK : X.K = K := by rfl) : MtR X "list.count" (rCountD K) := by
  subst hK
  intro pins s σ H x vs v us Q I rx rv h
  obtain ⟨O, y, ds, d, rfl, rl, ry, hd, hds, q⟩ := h
  cases rl with
  | @lst a xs _ hs ha =>
    cases rx
    cases rv with
    | cons r1 r2 =>
      cases r2
      obtain ⟨its, n, rit, e, hz⟩ := inv_rdL I (same_rd same_hid hs)
      obtain ⟨bs, rd⟩ := Dp.reads I (dpy d) y _ (Dp.mono same_hid (ry.dp (fit_p hd))) r1
      obtain ⟨as, ra⟩ := Dp.readsAll I (dpyAll ds) xs its (DpAll.mono same_hid (ha.dp (fit_p hds))) rit
      have hxs : PyData.canLayAll0 (dpyAll ds) = true := SeqAt.canLay_of_shaped (fit_s hds)
      have hroom : X.A.units + 1 + min (PyData.depthAll (dpyAll ds)) (dpy d).depth < cLine := room_in_shaped (fit_s hd) hu
      have hmap : its.map (SeqAt.readOf s.heap) = dpyAll ds := SeqAt.readsAll_map (dpyAll ds) its as hxs ra
      refine call_meets PySem.F.slot_list_count ⟨_, e, rfl⟩ PySem.F.entry_list_count (PySem.F.args_list_count_2 _ _) (SeqAt.list_countAt a its.toArray n none #[] _ (fun u => PyData.eqv (SeqAt.readOf s.heap u) (dpy d))) ⟨e, SeqAt.items_eqAt (vs := its.toArray) (show ReadsAll s.heap its.toArray.toList (dpyAll ds) as from ra) rd hxs (SeqAt.canLay_of_shaped (fit_s hd)) hroom, ?_⟩
      refine ⟨.int _, H, I.tok _, ⟨_, rfl⟩, ?_⟩
      have ec : its.toArray.toList.countP (fun u => PyData.eqv (SeqAt.readOf s.heap u) (dpy d)) = ds.countP fun z => eqD z d := by
        rw [List.toList_toArray]
        have h1 : its.countP (fun u => PyData.eqv (SeqAt.readOf s.heap u) (dpy d)) = (its.map (SeqAt.readOf s.heap)).countP fun z => PyData.eqv z (dpy d) := by rw [List.countP_map]; rfl
        rw [h1, hmap, dpyAll_map, List.countP_map]; rfl
      rw [ec]
      exact q
end
end L3
/-! L3k: own dicts over data. -/
namespace L3
open PySem L2
section
variable {X : Cx} (K : PySem.W.Frag)
theorem x_bm {o e : Expr} {es : List Expr} {to : TE} {t : TA} {name : Str} {apos cpos : Pos} {T id : String} {r : V → List V → Hp → VK → Prop} (h : PE X (.Call (.Attribute o name apos) (e :: es) [] cpos) (tBM X.K T r to t)) (hK : X.K = K := by rfl) : PE X (.Call (.Attribute o name apos) (e :: es) [] cpos) (tBM K T r to t) := hK ▸ h
end
section
variable {c : Ctx} {ρ : List SD} {n : Nat} {ta tb te : TE} {t u : TT} {as : TA} {Φ : Nat → D → Prop} {Ψ : Out} {ts us : TS}
theorem we_count {te2 : TE} (h : WE c te ρ n fun n1 d => ∃ ds, d = .lst ds ∧ WE c te2 ρ n1 fun n2 e => fit e = true ∧ fit (.lst ds) = true ∧ Φ n2 (.int ((ds.countP fun z => eqD z e : Nat) : Int))) : WE c (tBM c.K "list" (rCountD c.K) te (tCons te2 tNil)) ρ n Φ := fun P L σ H Q E q => by
  refine h P L σ H _ E fun x d n1 H1 s1 j1 r1 ⟨ds, e, h1⟩ => ?_
  subst e
  have E1 := E.step s1 j1
  cases r1 with
  | @lst a xs _ hs ha =>
    refine ⟨.inl ⟨rfl, xs, .inl (same_rd same_hid hs)⟩, ?_⟩
    refine h1 P L σ H1 _ E1 fun y d2 n2 H2 s2 j2 r2 ⟨f1, f2, k⟩ => ?_
    exact ⟨L ++ c.O, y, ds, d2, rfl, (Rp.lst hs ha).mono (E1.sameLO s2), r2, f1, f2, q _ _ n2 H2 (s1.trans s2) j2 (.int _) k⟩
theorem Env.dic_get {P : Hp} {L : List Addr} {n : Nat} {H : Hp} {σ : List (Option V)} {i : Nat} {kvs : List (D × D)} (E : Env c P L n H σ ρ) (h : ρ[i]? = some (.dic kvs)) : ∃ l, σ[i]? = some (some (.ref l)) ∧ l ∈ L ∧ NDict c.pr c.wd c.K (L ++ c.O) H l kvs := by
  obtain ⟨Ls, sl, sb⟩ := E.slots
  obtain ⟨l, h1, h2, h3⟩ := sl.getD h
  exact ⟨l, h1, sb.subset h2, h3⟩
theorem we_dix {i : Nat} {kvs : List (D × D)} (h0 : ρ[i]? = some (.dic kvs)) (h : WE c te ρ n fun n1 kd => keyD kd = true ∧ ∃ v, lookD kvs kd = some v ∧ Φ n1 v) : WE c (tOp (rIxN c.pr c.wd c.K) (tVar i) te) ρ n Φ := fun P L σ H Q E q => by
  obtain ⟨l, h1, hL, h2⟩ := E.dic_get h0
  refine ⟨.ref l, h1, ?_⟩
  refine h P L σ H _ E fun y kd n1 H1 s1 j1 r1 ⟨hk, v, hv, k⟩ => ?_
  have E1 := E.step s1 j1
  obtain ⟨l', g1, _, g2⟩ := E1.dic_get h0
  rw [h1] at g1
  cases g1
  exact ⟨L ++ c.O, l, kvs, kd, v, rfl, g2, r1, hk, hv, fun u r => q u v n1 H1 s1 j1 r k⟩
theorem we_dget {i : Nat} {kvs : List (D × D)} {tx : TE} (h0 : ρ[i]? = some (.dic kvs)) (h : WE c te ρ n fun n1 kd => WE c tx ρ n1 fun n2 xd => keyD kd = true ∧ Φ n2 ((lookD kvs kd).getD xd)) : WE c (tGetN c.pr c.wd c.K (tVar i) te tx) ρ n Φ := fun P L σ H Q E q => by
  obtain ⟨l, h1, hL, h2⟩ := E.dic_get h0
  refine ⟨.ref l, h1, l, rfl, ⟨_, _, h2⟩, ?_⟩
  refine h P L σ H _ E fun y kd n1 H1 s1 j1 r1 h3 => ?_
  have E1 := E.step s1 j1
  refine h3 P L σ H1 _ E1 fun z xd n2 H2 s2 j2 r2 ⟨hk, k⟩ => ?_
  have E2 := E1.step s2 j2
  obtain ⟨l', g1, _, g2⟩ := E2.dic_get h0
  rw [h1] at g1
  cases g1
  refine ⟨L ++ c.O, kvs, kd, g2, r1.mono (E1.sameLO s2), hk, fun v u hv ru => ?_, fun hn => ?_⟩
  · rw [hv] at k
    exact q u v n2 H2 (s1.trans s2) j2 ru k
  · rw [hn] at k
    exact q z xd n2 H2 (s1.trans s2) j2 r2 k
theorem Slots.dic_at {pr : Program} {wd : World} {K : PySem.W.Frag} {O : List Addr} {H : Hp} {kvs lvs : List (D × D)} : ∀ {σ : List (Option V)} {ρ : List SD} {L : List Addr} {i : Nat}, Slots pr wd K O H σ ρ L → L.Nodup → ρ[i]? = some (.dic kvs) → ∃ l, σ[i]? = some (some (.ref l)) ∧ l ∈ L ∧ NDict pr wd K O H l kvs ∧
    ∀ (o : HO), NDict pr wd K O (upd H l o) l lvs → hid O (upd H l o) = hid O H → Slots pr wd K O (upd H l o) σ (ρ.set i (.dic lvs)) L
  | _, _, _, _, .nil, _, e => by simp at e
  | _, _, _, 0, .un _, _, e => by simp at e
  | _, _, _, i + 1, .un s, nd, e => by
    obtain ⟨l, h1, h2, h3, h5⟩ := Slots.dic_at (i := i) s nd (by simpa using e)
    exact ⟨l, by simpa using h1, h2, h3, fun ys a b => .un (h5 ys a b)⟩
  | _, _, _, 0, .val _ _, _, e => by simp at e
  | _, _, _, i + 1, .val r s, nd, e => by
    obtain ⟨l, h1, h2, h3, h5⟩ := Slots.dic_at (i := i) s nd (by simpa using e)
    exact ⟨l, by simpa using h1, h2, h3, fun ys a b => .val (by rw [b]; exact r) (h5 ys a b)⟩
  | _, _, _, 0, .own _ _ _, _, e => by simp at e
  | _, _, _, i + 1, .own h r s, nd, e => by
    obtain ⟨l, h1, h2, h3, h5⟩ := Slots.dic_at (i := i) s (List.nodup_cons.mp nd).2 (by simpa using e)
    exact ⟨l, by simpa using h1, List.mem_cons_of_mem _ h2, h3, fun ys a b => .own ((upd_ne fun e => (List.nodup_cons.mp nd).1 (by rw [e]; exact h2)).trans h) (by rw [b]; exact r) (h5 ys a b)⟩
  | _, _, _, 0, .dic h s, nd, e => by
    simp at e
    subst e
    exact ⟨_, rfl, List.mem_cons_self, h, fun ys a b => .dic a (s.move (fun l hl => upd_ne fun e => (List.nodup_cons.mp nd).1 (by rw [← e]; exact hl)) (by rw [b]; exact Same.refl _))⟩
  | _, _, _, 0, .dk h s, nd, e => by simp at e
  | _, _, _, 0, .tw h s, nd, e => by simp at e
  | _, _, _, i + 1, .dic h s, nd, e => by
    obtain ⟨l, h1, h2, h3, h5⟩ := Slots.dic_at (i := i) s (List.nodup_cons.mp nd).2 (by simpa using e)
    exact ⟨l, by simpa using h1, List.mem_cons_of_mem _ h2, h3, fun ys a b => .dic (h.move (upd_ne fun e => (List.nodup_cons.mp nd).1 (by rw [e]; exact h2)) (by rw [b]; exact Same.refl _)) (h5 ys a b)⟩
  | _, _, _, i + 1, .dk h s, nd, e => by
    obtain ⟨l, h1, h2, h3, h5⟩ := Slots.dic_at (i := i) s (List.nodup_cons.mp nd).2 (by simpa using e)
    exact ⟨l, by simpa using h1, List.mem_cons_of_mem _ h2, h3, fun ys a b => .dk (h.move (upd_ne fun e => (List.nodup_cons.mp nd).1 (by rw [e]; exact h2)) (by rw [b]; exact Same.refl _)) (h5 ys a b)⟩
  | _, _, _, i + 1, .tw h s, nd, e => by
    obtain ⟨l, h1, h2, h3, h5⟩ := Slots.dic_at (i := i) s (List.nodup_cons.mp nd).2 (by simpa using e)
    exact ⟨l, by simpa using h1, List.mem_cons_of_mem _ h2, h3, fun ys a b => .tw (h.move (upd_ne fun e => (List.nodup_cons.mp nd).1 (by rw [e]; exact h2)) (by rw [b]; exact Same.refl _)) (h5 ys a b)⟩
theorem Env.dic_at {P : Hp} {L : List Addr} {n : Nat} {H : Hp} {σ : List (Option V)} {i : Nat} {kvs : List (D × D)} (E : Env c P L n H σ ρ) (h : ρ[i]? = some (.dic kvs)) : ∃ l, σ[i]? = some (some (.ref l)) ∧ l ∈ L ++ c.O ∧ NDict c.pr c.wd c.K (L ++ c.O) H l kvs ∧
    ∀ (o : HO) (lvs : List (D × D)), NDict c.pr c.wd c.K (L ++ c.O) (upd H l o) l lvs → Env c P L n (upd H l o) σ (ρ.set i (.dic lvs)) := by
  obtain ⟨Ls, sl, sb⟩ := E.slots
  have nd := sb.nodup E.nd
  obtain ⟨l, h1, h2, h3, _⟩ := sl.dic_at (lvs := kvs) nd h
  have lL := sb.subset h2
  have hm : l ∈ L ++ c.O := List.mem_append_left _ lL
  have hO : l ∉ c.O := (E.fresh l lL).2
  refine ⟨l, h1, hm, h3, fun o lvs hy => ?_⟩
  have bs : Same (hid c.B c.H0) (hid c.B (upd H l o)) := same_upd_old (E.fresh l lL).1 E.base
  obtain ⟨l', g1, g2, g3, g5⟩ := sl.dic_at (lvs := lvs) nd h
  rw [h1] at g1
  cases g1
  exact { nd := E.nd, fresh := E.fresh, slots := ⟨Ls, g5 o hy (hid_upd_in hm), sb⟩,
          lst := fun a ha => by
            by_cases e : a = l
            · exact ⟨_, by rw [e, upd_same]⟩
            · rw [upd_ne e]; exact E.lst a ha,
          bag := fun b q hb => (E.bag b q hb).move (fun o h => by rw [upd_ne fun e : b = l => hO (e ▸ (E.bO b q hb).1)]; exact h) fun o h => by rw [upd_ne fun e : q = l => hO (e ▸ (E.bO b q hb).2.1)]; exact h,
          base := bs, pers := by rw [hid_upd_in hm]; exact E.pers, bO := E.bO,
          al := fun o ho => by rw [upd_ne fun e : o = l => hO (e ▸ ho)]; exact E.al o ho }
/-- d[k] = e -/
theorem ws_dput {i : Nat} {kvs : List (D × D)} {tk : TE} (h0 : ρ[i]? = some (.dic kvs)) (hz : kvs.length < 16777216) (h : WE c te ρ n fun n1 vd => WE c tk ρ n1 fun n2 kd => keyD kd = true ∧ Ψ.nx n2 (ρ.set i (.dic (putD kvs kd vd)))) : WS c (tAsg te (gSub (tVar i) tk (rSetN c.pr c.wd c.K))) ρ n Ψ := fun P L σ H Dn E A => by
  refine h P L σ H _ E fun y vd n1 H1 s1 j1 r1 h1 => ?_
  have E1 := E.step s1 j1
  obtain ⟨l, g1, gL, g2, _⟩ := E1.dic_at h0
  refine ⟨.ref l, g1, ?_⟩
  refine h1 P L σ H1 _ E1 fun z kd n2 H2 s2 j2 r2 ⟨hk, k⟩ => ?_
  have E2 := E1.step s2 j2
  obtain ⟨l', g1', gL', g2', up⟩ := E2.dic_at h0
  rw [g1] at g1'
  cases g1'
  refine ⟨L ++ c.O, l, kvs, kd, vd, rfl, gL, g2', r2, hk, r1.mono (E1.sameLO s2), by rw [sizeLine_eq]; exact hz, fun φ hN => ?_⟩
  exact A.nx L n2 _ σ _ (up _ _ hN) k
/-- {} -/
theorem ws_dnew {i : Nat} (hi : i < ρ.length) (k : Ψ.nx n (ρ.set i (.dic []))) : WS c (tAsg (tDNewN c.pr c.wd) (gName i)) ρ n Ψ := fun P L σ H Dn E A => by
  intro p hp hs
  have w := E.new hp
  have nin : p ∉ L ++ c.O := E.noO p hp
  have T := E.newT (o := .ext (DictBare c.pr c.wd [] p)) hp
  have E1 := E.step T.1 T.2.1
  have e0 : ∀ O, hid (p :: O) (upd H p (.ext (DictBare c.pr c.wd [] p))) = hid O H := fun O => hid_new_in hp
  obtain ⟨Ls, sl0, sb⟩ := E.slots
  have sl : Slots c.pr c.wd c.K (p :: (L ++ c.O)) (upd H p (.ext (DictBare c.pr c.wd [] p))) σ ρ Ls := sl0.move (fun l hl => upd_ne fun e => w.2.2 (e ▸ sb.subset hl)) (by rw [e0]; exact Same.refl _)
  have nd : NDict c.pr c.wd c.K (p :: (L ++ c.O)) (upd H p (.ext (DictBare c.pr c.wd [] p))) p [] := ⟨[], upd_same, hs, .nil⟩
  obtain ⟨L1, L2, L3, sl2, eL, sub⟩ := Slots.setN nd (fun q => w.2.2 (sb.subset q)) i hi sl
  have mv : ∃ Lp : List Addr, (L1 ++ p :: L2).Sublist Lp ∧ Lp.Perm (p :: L) := by
    rw [eL] at sb
    have h5 : (L1 ++ L2).Sublist L := (List.Sublist.append_left sub L1).trans sb
    exact ins_sub h5
  obtain ⟨Lp, sLp, pLp⟩ := mv
  have mem : ∀ a, a ∈ Lp ++ c.O ↔ a ∈ p :: (L ++ c.O) := fun a => by
    rw [show p :: (L ++ c.O) = (p :: L) ++ c.O from rfl, List.mem_append, List.mem_append, pLp.mem_iff]
  refine A.nx Lp n _ _ _ ?_ k
  exact { nd := pLp.nodup_iff.mpr (List.nodup_cons.mpr ⟨w.2.2, E.nd⟩),
          fresh := fun l hl => by
            rcases List.mem_cons.mp (pLp.mem_iff.mp hl) with q | q
            · subst q; exact ⟨w.1, w.2.1⟩
            · exact E.fresh l q,
          slots := ⟨_, sl2.move (fun _ _ => rfl) (same_hid_sub fun a ha => (mem a).mp ha), sLp⟩,
          lst := fun l hl => by
            rcases List.mem_cons.mp (pLp.mem_iff.mp hl) with q | q
            · subst q; exact ⟨_, upd_same⟩
            · exact E1.lst l q,
          bag := T.2.1,
          base := E1.base,
          pers := (E.pers.trans (by rw [e0]; exact Same.refl _)).trans (same_hid_sub fun a ha => (mem a).mp ha),
          bO := E.bO, al := E1.al }
/-- sorted(d) -/
theorem wf_dsort {i : Nat} {kvs : List (D × D)} {Φ : Nat → List D → Prop} (h0 : ρ[i]? = some (.dic kvs)) (hp : plainAll (kvs.map (·.1)) = true) (hal : PySem.W.AllAlike ((kvs.map (·.1)).map dpy)) (hk : PySem.W.Sortable ((kvs.map (·.1)).map dpy)) (hL : kvs.length ≤ sizeLine)
    (hd : ∀ d ∈ kvs.map (·.1), (dpy d).depth ≤ 50) (k : Φ n (sortD (kvs.map (·.1)))) : WF c (tCB (rSortN c.pr c.wd c.K) (tCons (tVar i) tNil)) ρ n Φ := fun P L σ H Q E q => by
  obtain ⟨l, h1, hL', h2⟩ := E.dic_get h0
  refine ⟨.ref l, h1, L ++ c.O, l, kvs, rfl, h2, hp, hal, hk, hL, hd, fun p ys hpn hy => ?_⟩
  have T := E.newT (o := .lst ys) hpn
  exact q p ys _ n _ T.1 hpn upd_same (by rw [hid_new_in hpn]; exact hy) T.2.1 k
end
end L3
/-! L3l: defs with defaults, keyword calls, defs as callers see them, small rules. -/
namespace L3
open PySem L2
section
variable {P : Program} {w : World} {K : PySem.W.Frag} {mg : Str → Option Value} {base : Heap}
/-- a def with defaults by its body, over data -/
theorem fn_DD {x qual : Str} {st : Stmt} {f : Addr} {fd : FuncData} {N ps : List Str} {k : Nat} {S : Spec} {dvs : List V} (F : FunD K x qual (defArgs st) (defBody st) (defScope st) dvs [] f fd) (sc : FnScope N ps (defScope st))
    (len : ∀ bag n ds Φ, S bag n ds Φ → ds.length = ps.length)
    (body : ∀ (cdv : Value) (A : Around) (outer : List PySem.Env) (s : Shared) (H : Hp) (E : XK) (O : List Addr) (bag : Option (Addr × Addr)) (n : Nat) (ds : List D) (Φ : Nat → D → Prop), Room k (A.deeper (PyProof.Rows.envOfC qual (defScope st) s.heap.objs.size f cdv)) → S bag n ds Φ →
      ∃ t, PSs (cxOf CX0 P w K mg base N qual (defScope st) f cdv A outer s H E).nox (defBody st) t ∧ WS ⟨P, w, K, O, bag, H⟩ t (rho N ds) n { nx := fun n' _ => Φ n' .non, rt := Φ }) :
    FnOk P w K mg base CX0 (k + 1) f fd ps (spD K S) := by
  refine F.ok sc (fun vs H Q E h => ?_) (fun cdv A outer s H vs Q E hr h => ?_)
  · obtain ⟨O, bag, n, ds, Φ, _, _, r, hS, _⟩ := h
    rw [r.length]; exact len bag n ds Φ hS
  · obtain ⟨O, bag, n, ds, Φ, hb, hO, r, hS, q⟩ := h
    obtain ⟨t, ht, W⟩ := body cdv A outer s H E O bag n ds Φ hr hS
    refine ⟨t, ht.nox, W (fun _ => none) [] _ H _ ?_ ?_⟩
    · have e : L2.start N vs = vs.map some ++ List.replicate (N.length - ds.length) none := by unfold L2.start; rw [r.length]
      exact { nd := List.nodup_nil, fresh := (fun l hl => nomatch hl), slots := ⟨[], by rw [e]; exact slots_start r, List.Sublist.refl _⟩, lst := (fun l hl => nomatch hl), bag := fun b q e => (hb b q e).1, base := Same.refl _,
              pers := (fun _ _ e => nomatch e), bO := fun b q e => (hb b q e).2, al := hO }
    · exact { nx := fun L n' H' σ ρ E k => q .non .non n' H' E.base (fun b q e => E.bag b q e) .non k,
              rt := fun v d n' H' s j r k => q v d n' H' s j r k, bk := fun _ _ _ _ _ _ k => k.elim, ct := fun _ _ _ _ _ _ k => k.elim }
end
section
variable {c : Ctx} {ρ : List SD} {n : Nat} {as tk : TA} {Φ : Nat → D → Prop}
theorem we_ty {T : String} (k : Φ n (.ty T)) : WE c (tC (.ty T)) ρ n Φ := fun P L σ H Q E q => q _ _ n H (Same.refl _) E.bag (.ty T) k
theorem we_callK {S : Spec} {gV : List V → List V → List V} {XE : XK} (h : WA c as ρ n fun n1 ds => WA c tk ρ n1 fun n2 es => ∃ fs, (∀ H vs zs, RpAll c.K H vs ds → RpAll c.K H zs es → RpAll c.K H (gV vs zs) fs) ∧ S c.bag n2 fs Φ) : WE c (tCallK (spD c.K S) gV XE as tk) ρ n Φ := fun P L σ H Q E q => by
  refine h P L σ H _ E fun vs ds n1 H1 s1 j1 r1 h1 => ?_
  have E1 := E.step s1 j1
  refine h1 P L σ H1 _ E1 fun zs es n2 H2 s2 j2 r2 ⟨fs, g, k⟩ => ?_
  have E2 := E1.step s2 j2
  refine ⟨L ++ c.O, c.bag, n2, fs, Φ, fun b q hb => ⟨j2 b q hb, List.mem_append_right _ (E.bO b q hb).1, List.mem_append_right _ (E.bO b q hb).2.1, (E.bO b q hb).2.2⟩, E2.alLO, g _ _ _ (E1.ups (n' := n1) (H2 := H) s2 r1) r2, k, fun v d n3 H3 s3 j3 r3 k3 => ?_⟩
  exact q v d n3 H3 ((s1.trans s2).trans s3) j3 r3 k3
/-- a def as its callers see it -/
structure Dn (P : Program) (w : World) (K : PySem.W.Frag) (mg : Str → Option Value) (base : Heap) (x : Str) (k : Nat) (ps : List Str) (dv : List V) (dw : List Value) (S : L3.Spec) where
  f : Addr
  fd : FuncData
  G : FnOk P w K mg base CX0 k f fd ps (spD K S)
  m : mg x = some (.ref f)
  k : PySem.W.keepIn K (.ref f) = true
  b : Binds K fd ps dw
  v : Vals dv dw
theorem cut_to {xs : List D} {i : Nat} (h : i ≤ xs.length) : cutD xs none (some (i : Int)) = xs.take i := by
  unfold cutD
  have e : HT.sIx xs.length xs.length (some (i : Int)) = i := by rw [HT.sIx_nat]; omega
  rw [e]
  have e0 : HT.sIx xs.length 0 none = 0 := rfl
  rw [e0]; simp
theorem cut_map {α : Type} (f : α → D) (xs : List α) (lo hi : Option Int) : ∃ ys : List α, cutD (xs.map f) lo hi = ys.map f ∧ ys.Sublist xs := by
  unfold cutD
  rw [← List.map_drop, ← List.map_take]
  exact ⟨_, rfl, (List.take_sublist _ _).trans (List.drop_sublist _ _)⟩
end
/-- a def with a raw promise, as its callers see it -/
structure Dr (P : Program) (w : World) (K : PySem.W.Frag) (mg : Str → Option Value) (base : Heap) (x : Str) (k : Nat) (ps : List Str) (S : Sp) where
  f : Addr
  fd : FuncData
  G : FnOk P w K mg base CX0 k f fd ps S
  m : mg x = some (.ref f)
  k : PySem.W.keepIn K (.ref f) = true
  b : Binds K fd ps []
  v : Vals [] []
theorem we_slA {c : Ctx} {ρ : List SD} {n : Nat} {tl th : TO} {Φ : Nat → D → Prop} {i : Nat} {a : Addr} {ns : List Int} (hB : c.bag = none) (hS : SqL c.K c.H0 a (ns.map V.int)) (hi : ρ[i]? = some (.val (.adr a)))
    (h : WO c tl ρ n fun n2 lo => WO c th ρ n2 fun n3 hi => Φ n3 (.lst (cutD (ns.map .int) lo hi))) : WE c (tSl (rSlS3 c.K) (tVar i) tl th) ρ n Φ := fun P L σ H Q E q => by
  refine we_var (Φ := fun n1 d => n1 = n ∧ d = .adr a) hi ⟨rfl, rfl⟩ P L σ H _ E fun x d n1 H1 s1 j1 r1 ⟨e1, e2⟩ => ?_
  subst e1; subst e2
  have E1 := E.step s1 j1
  refine h P L σ H1 _ E1 fun lo n2 H2 s2 j2 h2 => ?_
  have E2 := E1.step s2 j2
  refine h2 P L σ H2 _ E2 fun hi n3 H3 s3 j3 k => ?_
  have E3 := E2.step s3 j3
  have s := (s1.trans s2).trans s3
  cases r1
  have hb : Same c.H0 H3 := fun o u e => by
    have hz : o ∉ c.B := fun q => by
      unfold Ctx.B at q
      rw [hB] at q
      cases q
    exact (hid_some.mp (E3.base o u (hid_some.mpr ⟨hz, e⟩))).2
  refine .inl ⟨_, _, rfl, same_l hb hS, fun p hp => ?_⟩
  have z := E3.newT (o := .lst (cutV (ns.map V.int) lo hi)) hp
  have ra : ∀ (H : Hp) (ns : List Int), RpAll c.K H (ns.map V.int) (ns.map D.int) := fun H ns => by
    induction ns with
    | nil => exact .nil
    | cons x ns ih => exact .cons (.int x) ih
  exact q _ _ n3 _ (s.trans z.1) z.2.1 (.lst (.inl (hid_at z.2.2)) ((ra _ ns).cut lo hi)) k
theorem we_neg {c : Ctx} {ρ : List SD} {n : Nat} {ta : TE} {Φ : Nat → D → Prop} (h : WE c ta ρ n fun n1 d => ∃ i, d = .int i ∧ Φ n1 (.int (-i))) : WE c (tUn (rU fun i => .int (-i)) ta) ρ n Φ := we_un (h.mono fun n1 d ⟨i, e, k⟩ O H x Q r no q => by
  subst e
  cases r
  exact ⟨i, rfl, q _ _ H (Same.refl _) (.int _) k⟩)
theorem fit_list {ds : List D} (h : ∀ d ∈ ds, fit d = true ∧ (dpy d).depth ≤ 60) : fit (.lst ds) = true ∧ fit (.tup ds) = true := by
  have hp : plainAll ds = true := by
    induction ds with
    | nil => rfl
    | cons x ds ih =>
      show (plain x && plainAll ds) = true
      rw [fit_p (h x List.mem_cons_self).1, ih fun d hd => h d (List.mem_cons_of_mem _ hd)]; rfl
  have hc : PyData.canLayAll0 (dpyAll ds) = true ∧ PyData.depthAll (dpyAll ds) ≤ 60 := by
    clear hp
    induction ds with
    | nil => exact ⟨rfl, Nat.zero_le _⟩
    | cons x ds ih =>
      obtain ⟨i1, i2⟩ := ih fun d hd => h d (List.mem_cons_of_mem _ hd)
      have hx := h x List.mem_cons_self
      refine ⟨?_, ?_⟩
      · show (PyData.canLay0 (dpy x) && PyData.canLayAll0 (dpyAll ds)) = true
        rw [SeqAt.canLay_of_shaped (fit_s hx.1), i1]; rfl
      · show max (PyData.depth (dpy x)) (PyData.depthAll (dpyAll ds)) ≤ 60
        exact Nat.max_le.mpr ⟨hx.2, i2⟩
  have sh : SeqAt.shaped (dpy (.lst ds)) = true ∧ SeqAt.shaped (dpy (.tup ds)) = true := by
    unfold SeqAt.shaped
    have d1 : (dpy (.lst ds)).depth = PyData.depthAll (dpyAll ds) + 1 := rfl
    have d2 : (dpy (.tup ds)).depth = PyData.depthAll (dpyAll ds) + 1 := rfl
    have c1 : (dpy (.lst ds)).canLay0 = PyData.canLayAll0 (dpyAll ds) := rfl
    have c2 : (dpy (.tup ds)).canLay0 = PyData.canLayAll0 (dpyAll ds) := rfl
    rw [d1, d2, c1, c2, hc.1]
    have : decide (PyData.depthAll (dpyAll ds) + 1 ≤ 64) = true := decide_eq_true (by omega)
    rw [this]; exact ⟨rfl, rfl⟩
  unfold fit
  have p1 : plain (.lst ds) = plainAll ds := rfl
  have p2 : plain (.tup ds) = plainAll ds := rfl
  rw [p1, p2, hp, sh.1, sh.2]; exact ⟨rfl, rfl⟩
theorem eq_self {d : D} (h : fit d = true) : eqD d d = true := SeqAt.eqv_refl _ (SeqAt.canLay_of_shaped (fit_s h))
theorem gN_go {i : Nat} {v : V} {σ : L2.St} {H : Hp} {Q : L2.St → Hp → Prop} (h : Q (σ.set i (some v)) H) : gName i v σ H Q := h
end L3
/-! L3m: instances: fields read, methods called, made. -/
namespace L3
open PySem L2
section
variable {K : PySem.W.Frag} {H : Hp}
theorem RpFs.look {f : Str} {d : D} : ∀ {vs : List (Str × V)} {ds : List (Str × D)}, RpFs K H vs ds → ds.lookup f = some d → ∃ v, vs.lookup f = some v ∧ Rp K H v d
  | _, _, .nil, e => by cases e
  | _, _, .cons (x := x) h r, e => by
    rw [List.lookup_cons] at e ⊢
    cases q : (f == x) with
    | true => rw [q] at e; cases e; exact ⟨_, rfl, h⟩
    | false => rw [q] at e; exact r.look e
theorem RpFs.none {f : Str} : ∀ {vs : List (Str × V)} {ds : List (Str × D)}, RpFs K H vs ds → ds.lookup f = none → vs.lookup f = none
  | _, _, .nil, _ => rfl
  | _, _, .cons (x := x) h r, e => by
    rw [List.lookup_cons] at e ⊢
    cases q : (f == x) with
    | true => rw [q] at e; cases e
    | false => rw [q] at e; exact r.none e
theorem RpFs.length : ∀ {vs : List (Str × V)} {ds : List (Str × D)}, RpFs K H vs ds → vs.length = ds.length
  | _, _, .nil => rfl
  | _, _, .cons _ r => by rw [List.length_cons, List.length_cons, r.length]
def putFD (f : Str) (d : D) : List (Str × D) → List (Str × D)
  | [] => [(f, d)]
  | (g, x) :: r => if g = f then (g, d) :: r else (g, x) :: putFD f d r
theorem RpFs.put {f : Str} {v : V} {d : D} (h : Rp K H v d) : ∀ {vs : List (Str × V)} {ds : List (Str × D)}, RpFs K H vs ds → RpFs K H (putF f v vs) (putFD f d ds)
  | _, _, .nil => .cons h .nil
  | _, _, .cons (x := x) h0 r => by
    show RpFs K H (if x = f then (x, v) :: _ else _) (if x = f then (x, d) :: _ else _)
    by_cases q : x = f
    · rw [if_pos q, if_pos q]; exact .cons h r
    · rw [if_neg q, if_neg q]; exact .cons h0 (r.put h)
end
section
variable {c : Ctx} {ρ : List SD} {n : Nat} {te to : TE} {as : TA} {Φ : Nat → D → Prop}
theorem we_fld {C : Addr} {f : Str} (cl : Cls c.K C) (na : NoAttr c.K C f) (h : WE c te ρ n fun n1 x => ∃ ds, x = .obj C ds ∧ ∃ d, ds.lookup f = some d ∧ Φ n1 d) : WE c (tFld c.K te f) ρ n Φ := fun P L σ H Q E q => by
  refine h P L σ H _ E fun x d n1 H1 s1 j1 r1 ⟨ds, e, d2, hl, k⟩ => ?_
  subst e
  cases r1 with
  | obj h1 hf =>
    obtain ⟨v, hv, rv⟩ := hf.look hl
    exact ⟨_, C, _, _, v, rfl, (hid_some.mp h1).2, cl, na, hv, q v d2 n1 H1 s1 j1 rv k⟩
theorem we_meth {C : Addr} {m : Str} {S : L3.Spec} {dvs : List V} {dds : List D} {XE : XK} (hd : ∀ H, RpAll c.K H dvs dds)
    (h : WE c to ρ n fun n1 x => ∃ ds, x = .obj C ds ∧ ds.lookup m = none ∧ WA c as ρ n1 fun n2 es => S c.bag n2 (.obj C ds :: (es ++ dds)) Φ) : WE c (tMeth C m (spD c.K S) dvs XE to as) ρ n Φ := fun P L σ H Q E q => by
  refine h P L σ H _ E fun x d n1 H1 s1 j1 r1 ⟨ds, e, hn, ha⟩ => ?_
  subst e
  have E1 := E.step s1 j1
  cases r1 with
  | obj h1 hf =>
    refine ⟨_, _, _, rfl, (hid_some.mp h1).2, hf.none hn, ?_⟩
    refine ha P L σ H1 _ E1 fun vs es n2 H2 s2 j2 r2 k => ?_
    have E2 := E1.step s2 j2
    refine ⟨L ++ c.O, c.bag, n2, _, Φ, fun b q hb => ⟨j2 b q hb, List.mem_append_right _ (E.bO b q hb).1, List.mem_append_right _ (E.bO b q hb).2.1, (E.bO b q hb).2.2⟩, E2.alLO, .cons ((Rp.obj h1 hf).mono (E1.sameLO s2)) (r2.append (hd _)), k, fun v d n3 H3 s3 j3 r3 k3 => ?_⟩
    exact q v d n3 H3 ((s1.trans s2).trans s3) j3 r3 k3
/-- what an __init__ promises, over data -/
abbrev SpecI := Option (Addr × Addr) → Nat → List D → (Nat → List (Str × D) → Prop) → Prop
def spI (K : PySem.W.Frag) (C : Addr) (S : SpecI) : Sp := fun vs H Q _ => ∃ (O : List Addr) (bag : Option (Addr × Addr)) (n : Nat) (ds : List D) (Φ : Nat → List (Str × D) → Prop) (p dx : Addr) (ws : List V),
  vs = .ref p :: ws ∧ H p = some (.ins C dx []) ∧ p ∉ O ∧ (∀ b q, bag = some (b, q) → BagOk b q n H ∧ b ∈ O ∧ q ∈ O ∧ q ≠ b) ∧ (∀ o ∈ O, H o ≠ none) ∧ RpAll K (hid (p :: O) H) ws ds ∧ S bag n ds Φ ∧
  ∀ fs ks n' H', Same (hid (p :: (bag.map (·.1)).toList) H) (hid (p :: (bag.map (·.1)).toList) H') → (∀ b q, bag = some (b, q) → BagOk b q n' H') → H' p = some (.ins C dx fs) → RpFs K (hid (p :: O) H') fs ks → Φ n' ks → Q .non H'
theorem we_make {C : Addr} {S : SpecI} {dvs : List V} {dds : List D} {XE : XK} (hd : ∀ H, RpAll c.K H dvs dds) (h : WA c as ρ n fun n1 ds => S c.bag n1 (ds ++ dds) fun n2 ks => Φ n2 (.obj C ks)) : WE c (tMake C (spI c.K C S) dvs XE as) ρ n Φ := fun P L σ H Q E q => by
  refine h P L σ H _ E fun vs ds n1 H1 s1 j1 r1 k => ?_
  have E1 := E.step s1 j1
  intro x dx nx ndx nex
  have xO : x ∉ L ++ c.O := E1.noO x nx
  have keep : ∀ a o, H1 a = some o → (upd (upd H1 dx (.own x)) x (.ins C dx [])) a = some o := fun a o e => by
    rw [upd_ne (fun z : a = x => by rw [z, nx] at e; cases e), upd_ne (fun z : a = dx => by rw [z, ndx] at e; cases e)]
    exact e
  have sm : Same (hid (L ++ c.O) H1) (hid (x :: (L ++ c.O)) (upd (upd H1 dx (.own x)) x (.ins C dx []))) := fun a o e => by
    obtain ⟨e1, e2⟩ := hid_some.mp e
    refine hid_some.mpr ⟨fun z => ?_, keep a o e2⟩
    rcases List.mem_cons.mp z with z | z
    · rw [z, nx] at e2; cases e2
    · exact e1 z
  refine ⟨L ++ c.O, c.bag, n1, ds ++ dds, _, x, dx, vs ++ dvs, rfl, upd_same, xO, fun b q hb => ⟨(j1 b q hb).move (fun o e => keep b o e) (fun o e => keep q o e), List.mem_append_right _ (E.bO b q hb).1, List.mem_append_right _ (E.bO b q hb).2.1, (E.bO b q hb).2.2⟩, fun o ho => ?_, (r1.mono sm).append (hd _), k, fun fs ks n2 H3 s3 j3 hx hf kk => ⟨rfl, ?_⟩⟩
  · cases e : H1 o with
    | none => exact absurd e (E1.alLO o ho)
    | some u => rw [keep o u e]; exact fun z => nomatch z
  · refine q (.ref x) (.obj C ks) n2 H3 (s1.trans fun a o e => ?_) j3 (.obj (dx := dx) (hid_some.mpr ⟨xO, hx⟩) (hf.mono (same_hid_sub fun a ha => List.mem_cons_of_mem _ ha))) kk
    obtain ⟨e1, e2⟩ := hid_some.mp e
    have ne : a ≠ x := fun z => by rw [z, nx] at e2; cases e2
    have z := s3 a o (hid_some.mpr ⟨fun z => by
      rcases List.mem_cons.mp z with z | z
      · exact ne z
      · exact e1 z, keep a o e2⟩)
    exact hid_some.mpr ⟨e1, (hid_some.mp z).2⟩
end
end L3
/-! L3n: __init__: field by field. -/
namespace L3
open PySem L2
abbrev bagB (bag : Option (Addr × Addr)) : List Addr := (bag.map (·.1)).toList
def flat : List SD → Bool
  | [] => true
  | .un :: r => flat r
  | .val _ :: r => flat r
  | _ :: _ => false
theorem Slots.flat {pr : Program} {wd : World} {K : PySem.W.Frag} {O : List Addr} {H : Hp} : ∀ {σ : List (Option V)} {ρ : List SD} {L : List Addr}, Slots pr wd K O H σ ρ L → L3.flat ρ = true → L = []
  | _, _, _, .nil, _ => rfl
  | _, _, _, .un s, h => Slots.flat s h
  | _, _, _, .val _ s, h => Slots.flat s h
  | _, _, _, .own _ _ _, h => by cases h
  | _, _, _, .dic _ _, h => by cases h
  | _, _, _, .dk _ _, h => by cases h
  | _, _, _, .tw _ _, h => by cases h
/-- any statement that is never reached -/
theorem ps_never {X : Cx} {st : Stmt} : PS X st (fun _ _ _ => False) := ⟨fun _ _ _ _ _ _ h => h.elim⟩
section
variable {P : Program} {w : World} {K : PySem.W.Frag} {mg : Str → Option Value} {base : Heap} {O : List Addr} {bag : Option (Addr × Addr)} {p C dx : Addr} {ρ : List SD} {n : Nat} {ks : List (Str × D)} {Φ : Nat → List (Str × D) → Prop} {te : TE} {ts us : TS} {f : Str}
def WN (P : Program) (w : World) (K : PySem.W.Frag) (O : List Addr) (bag : Option (Addr × Addr)) (p C dx : Addr) (ts : TS) (ρ : List SD) (n : Nat) (ks : List (Str × D)) (Φ : Nat → List (Str × D) → Prop) : Prop :=
  ∀ (H : Hp) (σ : List (Option V)) (fs : List (Str × V)) (Dn : Ends), H p = some (.ins C dx fs) → p ∉ O → RpFs K (hid (p :: O) H) fs ks → Env ⟨P, w, K, p :: O, bag, H⟩ (fun _ => none) [] n H σ ρ →
  (∀ σ' fs' ks' n' H', Same (hid (p :: bagB bag) H) (hid (p :: bagB bag) H') → (∀ b q, bag = some (b, q) → BagOk b q n' H') → H' p = some (.ins C dx fs') → RpFs K (hid (p :: O) H') fs' ks' → Φ n' ks' → Dn.nx σ' H') → ts Dn σ H
/-- one store -/
theorem wn_go {H : Hp} {σ : List (Option V)} {fs : List (Str × V)} {Q : List (Option V) → Hp → Prop} {Dn : Ends} (cl : Cls K C) (na : NoAttr K C f) (hl : ks.length < 1000) (hs : ρ[0]? = some (.val (.adr p)))
    (hp : H p = some (.ins C dx fs)) (pO : p ∉ O) (hf : RpFs K (hid (p :: O) H) fs ks) (E : Env ⟨P, w, K, p :: O, bag, H⟩ (fun _ => none) [] n H σ ρ) {Ψ : Nat → D → Prop} (h : WE ⟨P, w, K, p :: O, bag, H⟩ te ρ n Ψ)
    (k : ∀ y d n1 H3, Ψ n1 d → Same (hid (p :: bagB bag) H) (hid (p :: bagB bag) H3) → H3 p = some (.ins C dx (putF f y fs)) → RpFs K (hid (p :: O) H3) (putF f y fs) (putFD f d ks) → Env ⟨P, w, K, p :: O, bag, H3⟩ (fun _ => none) [] n1 H3 σ ρ → Dn.nx σ H3) : sFld K (tVar 0) te f Dn σ H := by
  refine h (fun _ => none) [] σ H _ E fun y d n1 H1 s1 j1 r1 kk => ?_
  have E1 := E.step s1 j1
  refine we_var (c := ⟨P, w, K, p :: O, bag, H⟩) (n := n1) (Φ := fun m z => m = n1 ∧ z = .adr p) hs ⟨rfl, rfl⟩ (fun _ => none) [] σ H1 _ E1 fun x d2 n2 H2 s2 j2 r2 ⟨e1, e2⟩ => ?_
  subst e1; subst e2
  cases r2
  have E2 := E1.step s2 j2
  have s12 := s1.trans s2
  have pB : p ∉ bagB bag := fun z => by
    obtain ⟨q, hq⟩ := (mem_B (c := ⟨P, w, K, p :: O, bag, H⟩)).mp z
    obtain ⟨xs, hx⟩ := (E.bag p q hq).lst
    rw [hp] at hx; cases hx
  have hp2 : H2 p = some (.ins C dx fs) := (hid_some.mp (s12 p _ (hid_some.mpr ⟨pB, hp⟩))).2
  have hb : ∀ b q, bag = some (b, q) → BagOk b q n2 (upd H2 p (.ins C dx (putF f y fs))) := fun b q e => by
    have B := E2.bag b q e
    refine B.move (fun o ho => ?_) (fun o ho => ?_)
    · rw [upd_ne (fun z : b = p => by obtain ⟨xs, hx⟩ := B.lst; rw [z, hp2] at hx; cases hx)]; exact ho
    · rw [upd_ne (fun z : q = p => by obtain ⟨_, _, _, _, hx, _⟩ := B; rw [z, hp2] at hx; cases hx)]; exact ho
  have hh : hid (p :: O) (upd H2 p (.ins C dx (putF f y fs))) = hid (p :: O) H2 := hid_upd_in List.mem_cons_self
  refine ⟨p, C, dx, fs, rfl, hp2, cl, na, by rw [hf.length]; exact hl, ?_⟩
  refine k y d n2 _ kk (fun a o e => ?_) upd_same ?_ ?_
  · obtain ⟨e1, e2⟩ := hid_some.mp e
    have ne : a ≠ p := fun z => e1 (z ▸ List.mem_cons_self)
    have z := s12 a o (hid_some.mpr ⟨fun z => e1 (List.mem_cons_of_mem _ z), e2⟩)
    exact hid_some.mpr ⟨e1, by rw [upd_ne ne]; exact (hid_some.mp z).2⟩
  · rw [hh]
    exact ((hf.mono (E.sameLO s12)).put (r1.mono (E1.sameLO s2)))
  · obtain ⟨Ls, sl, sb⟩ := E2.slots
    have eL : Ls = [] := List.eq_nil_of_sublist_nil sb
    subst eL
    exact { nd := List.nodup_nil, fresh := (fun l hl => nomatch hl), slots := ⟨[], sl.move (fun l hl => nomatch hl) (by show Same (hid (p :: O) H2) (hid (p :: O) _); rw [hh]; exact Same.refl _), List.Sublist.refl _⟩, lst := (fun l hl => nomatch hl), bag := hb, base := Same.refl _,
            pers := (fun _ _ e => nomatch e), bO := E2.bO, al := fun o ho => by
              by_cases z : o = p
              · rw [z, upd_same]; exact fun z => nomatch z
              · rw [upd_ne z]; exact E2.al o ho }
theorem wn_st (cl : Cls K C) (na : NoAttr K C f) (hl : ks.length < 1000) (hs : ρ[0]? = some (.val (.adr p))) (h : ∀ H0, WE ⟨P, w, K, p :: O, bag, H0⟩ te ρ n fun n1 d => Φ n1 (putFD f d ks)) : WN P w K O bag p C dx (sFld K (tVar 0) te f) ρ n ks Φ := fun H σ fs Dn hp pO hf E q =>
  wn_go (Q := fun _ _ => True) cl na hl hs hp pO hf E (h H) fun y d n1 H3 kk s hp3 hf3 E3 => q σ _ _ n1 H3 s E3.bag hp3 hf3 kk
theorem wn_seq (cl : Cls K C) (na : NoAttr K C f) (hl : ks.length < 1000) (hs : ρ[0]? = some (.val (.adr p))) (h : ∀ H0, WE ⟨P, w, K, p :: O, bag, H0⟩ te ρ n fun n1 d => WN P w K O bag p C dx us ρ n1 (putFD f d ks) Φ) : WN P w K O bag p C dx (tSeq (sFld K (tVar 0) te f) us) ρ n ks Φ := fun H σ fs Dn hp pO hf E q =>
  wn_go (Q := fun _ _ => True) (Dn := { Dn with nx := us Dn }) cl na hl hs hp pO hf E (h H) fun y d n1 H3 kk s hp3 hf3 E3 => kk H3 σ _ Dn hp3 pO hf3 E3 fun σ' fs' ks' n' H' s' b' hp' hf' kk' => q σ' fs' ks' n' H' (s.trans s') b' hp' hf' kk'
/-- statements ahead of the stores -/
theorem wn_pre (h : ∀ H0, WS ⟨P, w, K, p :: O, bag, H0⟩ ts ρ n { nx := fun n1 ρ1 => flat ρ1 = true ∧ WN P w K O bag p C dx us ρ1 n1 ks Φ, rt := fun _ _ => False }) : WN P w K O bag p C dx (tSeq ts us) ρ n ks Φ := fun H σ fs Dn hp pO hf E q => by
  refine h H (fun _ => none) [] σ H { Dn with nx := us Dn } E { nx := fun L n1 H1 σ1 ρ1 E1 ⟨hfl, hn⟩ => ?_, rt := fun _ _ _ _ _ _ _ h => h.elim, bk := fun _ _ _ _ _ _ h => h.elim, ct := fun _ _ _ _ _ _ h => h.elim }
  have pB : p ∉ bagB bag := fun z => by
    obtain ⟨q, hq⟩ := (mem_B (c := ⟨P, w, K, p :: O, bag, H⟩)).mp z
    obtain ⟨xs, hx⟩ := (E.bag p q hq).lst
    rw [hp] at hx; cases hx
  have hp1 : H1 p = some (.ins C dx fs) := (hid_some.mp (E1.base p _ (hid_some.mpr ⟨pB, hp⟩))).2
  have bO : ∀ a, a ∈ bagB bag → a ∈ p :: O := fun a ha => E.inO (show a ∈ (⟨P, w, K, p :: O, bag, H⟩ : Ctx).B from ha)
  have s0 : Same (hid (p :: O) H) (hid (p :: O) H1) := same_hid_more bO E1.base
  obtain ⟨Ls, sl, sb⟩ := E1.slots
  have eL := sl.flat hfl
  subst eL
  refine hn H1 σ1 fs Dn hp1 pO (hf.mono s0) ?_ fun σ' fs' ks' n' H' s' b' hp' hf' kk' => q σ' fs' ks' n' H' ((same_hid_more (fun a ha => List.mem_cons_of_mem _ ha) E1.base).trans s') b' hp' hf' kk'
  exact { nd := List.nodup_nil, fresh := (fun l hl => nomatch hl), slots := ⟨[], sl.move (fun l hl => nomatch hl) (same_hid_sub fun a ha => List.mem_append_right _ ha), List.Sublist.refl _⟩, lst := (fun l hl => nomatch hl), bag := E1.bag, base := Same.refl _,
          pers := (fun _ _ e => nomatch e), bO := E1.bO, al := E1.al }
/-- THE RULE for an __init__, over data -/
theorem fn_I {x qual : Str} {st : Stmt} {fa : Addr} {fd : FuncData} {N ps : List Str} {k : Nat} {S : SpecI} (F : Fun K x qual st fa fd) (sc : FnScope N ps (defScope st))
    (len : ∀ bag n ds Φ, S bag n ds Φ → ds.length + 1 = ps.length)
    (body : ∀ (cdv : Value) (A : Around) (outer : List PySem.Env) (s : Shared) (H : Hp) (E : XK) (O : List Addr) (bag : Option (Addr × Addr)) (n : Nat) (ds : List D) (Φ : Nat → List (Str × D) → Prop) (p dx : Addr), Room k (A.deeper (PyProof.Rows.envOfC qual (defScope st) s.heap.objs.size fa cdv)) → S bag n ds Φ →
      ∃ t, PSs (cxOf CX0 P w K mg base N qual (defScope st) fa cdv A outer s H E).nox (defBody st) t ∧ WN P w K O bag p C dx t (rho N (.adr p :: ds)) n [] Φ) :
    FnOk P w K mg base CX0 (k + 1) fa fd ps (spI K C S) := by
  refine F.ok sc (fun vs H Q E h => ?_) (fun cdv A outer s H vs Q E hr h => ?_)
  · obtain ⟨O, bag, n, ds, Φ, p, dx, ws, rfl, _, _, _, _, r, hS, _⟩ := h
    rw [List.length_cons, r.length]; exact len bag n ds Φ hS
  · obtain ⟨O, bag, n, ds, Φ, p, dx, ws, rfl, hp, pO, hb, hO, r, hS, q⟩ := h
    obtain ⟨t, ht, W⟩ := body cdv A outer s H E O bag n ds Φ p dx hr hS
    refine ⟨t, ht, W H _ [] _ hp pO .nil ?_ fun σ' fs' ks' n' H' s' b' hp' hf' kk' => q fs' ks' n' H' s' b' hp' hf' kk'⟩
    have r' : RpAll K (hid (p :: O) H) (.ref p :: ws) (.adr p :: ds) := .cons (.adr p) r
    have e : L2.start N (.ref p :: ws) = (.ref p :: ws).map some ++ List.replicate (N.length - (D.adr p :: ds).length) none := by unfold L2.start; rw [r'.length]
    exact { nd := List.nodup_nil, fresh := (fun l hl => nomatch hl), slots := ⟨[], by rw [e]; exact slots_start r', List.Sublist.refl _⟩, lst := (fun l hl => nomatch hl), bag := fun b q e => (hb b q e).1, base := Same.refl _,
            pers := (fun _ _ e => nomatch e), bO := fun b q e => ⟨List.mem_cons_of_mem _ (hb b q e).2.1, List.mem_cons_of_mem _ (hb b q e).2.2.1, (hb b q e).2.2.2⟩,
            al := fun o ho => by
              rcases List.mem_cons.mp ho with z | z
              · rw [z, hp]; exact fun z => nomatch z
              · exact hO o z }
end
end L3
/-! L3o: dicts with int and text keys: as data, as one's own. -/
namespace L3
open PySem L2
section
variable {c : Ctx} {ρ : List SD} {n : Nat} {ta tb te td ty tx : TE} {t u : TT} {as : TA} {Φ : Nat → D → Prop} {Ψ : Out} {ts us : TS}
def keyK : D → Option L2.Key
  | .int i => some (.inl i)
  | .str x => some (.inr x)
  | _ => none
theorem keyK_V {K : PySem.W.Frag} {H : Hp} {v : V} {d : D} {k : L2.Key} (r : Rp K H v d) (h : keyK d = some k) : v = kV k := by
  cases r <;> first | (cases h; rfl) | cases h
def lookK (kvs : List (L2.Key × D)) (k : L2.Key) : Option D := (kvs.find? fun kv => decide (kv.1 = k)).map (·.2)
def putKD (kvs : List (L2.Key × D)) (k : L2.Key) (d : D) : List (L2.Key × D) := if (kvs.any fun kv => decide (kv.1 = k)) = true then kvs.map (fun kv => if kv.1 = k then (kv.1, d) else kv) else kvs ++ [(k, d)]
section
variable {K : PySem.W.Frag} {H : Hp}
theorem RpKs.length : ∀ {xs : List (L2.Key × V)} {kvs : List (L2.Key × D)}, RpKs K H xs kvs → xs.length = kvs.length
  | _, _, .nil => rfl
  | _, _, .cons _ r => by rw [List.length_cons, List.length_cons, r.length]
theorem RpKs.look {k : L2.Key} : ∀ {xs : List (L2.Key × V)} {kvs : List (L2.Key × D)}, RpKs K H xs kvs → (∀ d, lookK kvs k = some d → ∃ v, valV xs k = some v ∧ Rp K H v d) ∧ (lookK kvs k = none → valV xs k = none)
  | _, _, .nil => ⟨fun d e => by simp [lookK] at e, fun _ => rfl⟩
  | _, _, .cons (x := x) h r => by
    obtain ⟨i1, i2⟩ := RpKs.look (k := k) r
    unfold lookK valV at *
    by_cases q : x = k
    · subst q
      simp only [List.find?_cons, decide_true]
      exact ⟨fun d e => by cases e; exact ⟨_, rfl, h⟩, fun e => by cases e⟩
    · simp only [List.find?_cons, decide_eq_false q]
      exact ⟨i1, i2⟩
theorem RpKs.any {k : L2.Key} : ∀ {xs : List (L2.Key × V)} {kvs : List (L2.Key × D)}, RpKs K H xs kvs → (xs.any fun kv => decide (kv.1 = k)) = kvs.any fun kv => decide (kv.1 = k)
  | _, _, .nil => rfl
  | _, _, .cons _ r => by rw [List.any_cons, List.any_cons, r.any]
theorem RpKs.repl {k : L2.Key} {v : V} {d : D} (h : Rp K H v d) : ∀ {xs : List (L2.Key × V)} {kvs : List (L2.Key × D)}, RpKs K H xs kvs → RpKs K H (xs.map fun kv => if kv.1 = k then (kv.1, v) else kv) (kvs.map fun kv => if kv.1 = k then (kv.1, d) else kv)
  | _, _, .nil => .nil
  | _, _, .cons (x := x) (v := v0) (vs := vs) (d := d0) (ds := ds) h0 r => by
    have ih := RpKs.repl (k := k) h r
    show RpKs K H ((if x = k then (x, v) else (x, v0)) :: _) ((if x = k then (x, d) else (x, d0)) :: _)
    by_cases q : x = k
    · rw [if_pos q, if_pos q]; exact .cons h ih
    · rw [if_neg q, if_neg q]; exact .cons h0 ih
theorem RpKs.snoc {k : L2.Key} {v : V} {d : D} (h : Rp K H v d) : ∀ {xs : List (L2.Key × V)} {kvs : List (L2.Key × D)}, RpKs K H xs kvs → RpKs K H (xs ++ [(k, v)]) (kvs ++ [(k, d)])
  | _, _, .nil => .cons h .nil
  | _, _, .cons h0 r => .cons h0 (RpKs.snoc h r)
theorem RpKs.put {k : L2.Key} {v : V} {d : D} (h : Rp K H v d) {xs : List (L2.Key × V)} {kvs : List (L2.Key × D)} (r : RpKs K H xs kvs) : RpKs K H (putK xs k v) (putKD kvs k d) := by
  unfold putK putKD
  rw [r.any]
  by_cases q : (kvs.any fun kv => decide (kv.1 = k)) = true
  · rw [if_pos q, if_pos q]; exact r.repl h
  · rw [if_neg q, if_neg q]; exact r.snoc h
end
theorem Slots.freezeK {pr : Program} {wd : World} {K : PySem.W.Frag} {O : List Addr} {H : Hp} {kvs : List (L2.Key × D)} : ∀ {σ : List (Option V)} {ρ : List SD} {L : List Addr} {i : Nat}, Slots pr wd K O H σ ρ L → ρ[i]? = some (.dk kvs) → ∃ L1 l L2 xs, L = L1 ++ l :: L2 ∧ H l = some (.dK xs) ∧ RpKs K (hid O H) xs kvs ∧
    ∀ O' , Same (hid O H) (hid O' H) → l ∉ O' → Slots pr wd K O' H σ (ρ.set i (.val (.dct kvs))) (L1 ++ L2)
  | _, _, _, _, .nil, e => by simp at e
  | _, _, _, 0, .un _, e => by simp at e
  | _, _, _, i + 1, .un s, e => by
    obtain ⟨L1, l, L2, xs, h1, h2, h3, h4⟩ := Slots.freezeK (i := i) s (by simpa using e)
    exact ⟨L1, l, L2, xs, h1, h2, h3, fun O' a b => .un (h4 O' a b)⟩
  | _, _, _, 0, .val _ _, e => by simp at e
  | _, _, _, i + 1, .val r s, e => by
    obtain ⟨L1, l, L2, xs, h1, h2, h3, h4⟩ := Slots.freezeK (i := i) s (by simpa using e)
    exact ⟨L1, l, L2, xs, h1, h2, h3, fun O' a b => .val (r.mono a) (h4 O' a b)⟩
  | _, _, _, 0, .own h r s, e => by simp at e
  | _, _, _, i + 1, .own h r s, e => by
    obtain ⟨L1, l, L2, xs, h1, h2, h3, h4⟩ := Slots.freezeK (i := i) s (by simpa using e)
    exact ⟨_ :: L1, l, L2, xs, by rw [h1]; rfl, h2, h3, fun O' a b => .own h (r.mono a) (h4 O' a b)⟩
  | _, _, _, 0, .dic _ _, e => by simp at e
  | _, _, _, 0, .dk ⟨xs, h, r⟩ s, e => by
    simp at e
    subst e
    exact ⟨[], _, _, _, rfl, h, r, fun O' a b => .val (.dct (.inl (by rw [hid_out b]; exact h)) (r.mono a)) (s.move (fun _ _ => rfl) a)⟩
  | _, _, _, 0, .tw h s, e => by simp at e
  | _, _, _, i + 1, .dic h s, e => by
    obtain ⟨L1, l, L2, xs, h1, h2, h3, h4⟩ := Slots.freezeK (i := i) s (by simpa using e)
    exact ⟨_ :: L1, l, L2, xs, by rw [h1]; rfl, h2, h3, fun O' a b => .dic (h.move rfl a) (h4 O' a b)⟩
  | _, _, _, i + 1, .dk h s, e => by
    obtain ⟨L1, l, L2, xs, h1, h2, h3, h4⟩ := Slots.freezeK (i := i) s (by simpa using e)
    exact ⟨_ :: L1, l, L2, xs, by rw [h1]; rfl, h2, h3, fun O' a b => .dk (h.move rfl a) (h4 O' a b)⟩
  | _, _, _, i + 1, .tw h s, e => by
    obtain ⟨L1, l, L2, xs, h1, h2, h3, h4⟩ := Slots.freezeK (i := i) s (by simpa using e)
    exact ⟨_ :: L1, l, L2, xs, by rw [h1]; rfl, h2, h3, fun O' a b => .tw (h.move rfl a) (h4 O' a b)⟩
theorem Env.freezeK {P : Hp} {L : List Addr} {n : Nat} {H : Hp} {σ : List (Option V)} {i : Nat} {kvs : List (L2.Key × D)} (E : Env c P L n H σ ρ) (h : ρ[i]? = some (.dk kvs)) : ∃ L', Env c P L' n H σ (ρ.set i (.val (.dct kvs))) ∧ L'.Sublist L := by
  obtain ⟨Ls, sl, sb⟩ := E.slots
  obtain ⟨L1, l, L2, xs, h1, h2, h3, h4⟩ := sl.freezeK h
  have lL : l ∈ L := sb.subset (by rw [h1]; simp)
  have sub : (L.erase l).Sublist L := List.erase_sublist
  have nl : l ∉ L.erase l := E.nd.not_mem_erase
  have sb2 : (L1 ++ L2).Sublist (L.erase l) := by
    have nd := sb.nodup E.nd
    rw [h1] at nd
    have n1 : l ∉ L1 := fun q => by
      have := (List.nodup_append.mp nd).2.2 l q l List.mem_cons_self
      exact this rfl
    have q : (Ls.erase l).Sublist (L.erase l) := sb.erase l
    rw [h1, List.erase_append_right _ n1, List.erase_cons_head] at q
    exact q
  have nO : l ∉ (L.erase l) ++ c.O := fun q => by
    rcases List.mem_append.mp q with q | q
    · exact nl q
    · exact (E.fresh l lL).2 q
  have se : Same (hid (L ++ c.O) H) (hid ((L.erase l) ++ c.O) H) := same_hid_sub fun a ha => by
    rcases List.mem_append.mp ha with q | q
    · exact List.mem_append_left _ (sub.subset q)
    · exact List.mem_append_right _ q
  exact ⟨L.erase l, { nd := sub.nodup E.nd, fresh := fun l hl => E.fresh l (sub.subset hl), slots := ⟨_, h4 _ se nO, sb2⟩, lst := fun l hl => E.lst l (sub.subset hl), base := E.base, pers := E.pers.trans se, bO := E.bO, al := E.al, bag := E.bag }, sub⟩
theorem Slots.dk_at {pr : Program} {wd : World} {K : PySem.W.Frag} {O : List Addr} {H : Hp} {kvs lvs : List (L2.Key × D)} : ∀ {σ : List (Option V)} {ρ : List SD} {L : List Addr} {i : Nat}, Slots pr wd K O H σ ρ L → L.Nodup → ρ[i]? = some (.dk kvs) → ∃ l, σ[i]? = some (some (.ref l)) ∧ l ∈ L ∧ KDict pr wd K O H l kvs ∧
    ∀ (o : HO), KDict pr wd K O (upd H l o) l lvs → hid O (upd H l o) = hid O H → Slots pr wd K O (upd H l o) σ (ρ.set i (.dk lvs)) L
  | _, _, _, _, .nil, _, e => by simp at e
  | _, _, _, 0, .un _, _, e => by simp at e
  | _, _, _, i + 1, .un s, nd, e => by
    obtain ⟨l, h1, h2, h3, h5⟩ := Slots.dk_at (i := i) s nd (by simpa using e)
    exact ⟨l, by simpa using h1, h2, h3, fun ys a b => .un (h5 ys a b)⟩
  | _, _, _, 0, .val _ _, _, e => by simp at e
  | _, _, _, i + 1, .val r s, nd, e => by
    obtain ⟨l, h1, h2, h3, h5⟩ := Slots.dk_at (i := i) s nd (by simpa using e)
    exact ⟨l, by simpa using h1, h2, h3, fun ys a b => .val (by rw [b]; exact r) (h5 ys a b)⟩
  | _, _, _, 0, .own _ _ _, _, e => by simp at e
  | _, _, _, i + 1, .own h r s, nd, e => by
    obtain ⟨l, h1, h2, h3, h5⟩ := Slots.dk_at (i := i) s (List.nodup_cons.mp nd).2 (by simpa using e)
    exact ⟨l, by simpa using h1, List.mem_cons_of_mem _ h2, h3, fun ys a b => .own ((upd_ne fun e => (List.nodup_cons.mp nd).1 (by rw [e]; exact h2)).trans h) (by rw [b]; exact r) (h5 ys a b)⟩
  | _, _, _, 0, .dic h s, nd, e => by simp at e
  | _, _, _, 0, .dk h s, nd, e => by
    simp at e
    subst e
    exact ⟨_, rfl, List.mem_cons_self, h, fun ys a b => .dk a (s.move (fun l hl => upd_ne fun e => (List.nodup_cons.mp nd).1 (by rw [← e]; exact hl)) (by rw [b]; exact Same.refl _))⟩
  | _, _, _, 0, .tw h s, nd, e => by simp at e
  | _, _, _, i + 1, .dic h s, nd, e => by
    obtain ⟨l, h1, h2, h3, h5⟩ := Slots.dk_at (i := i) s (List.nodup_cons.mp nd).2 (by simpa using e)
    exact ⟨l, by simpa using h1, List.mem_cons_of_mem _ h2, h3, fun ys a b => .dic (h.move (upd_ne fun e => (List.nodup_cons.mp nd).1 (by rw [e]; exact h2)) (by rw [b]; exact Same.refl _)) (h5 ys a b)⟩
  | _, _, _, i + 1, .dk h s, nd, e => by
    obtain ⟨l, h1, h2, h3, h5⟩ := Slots.dk_at (i := i) s (List.nodup_cons.mp nd).2 (by simpa using e)
    exact ⟨l, by simpa using h1, List.mem_cons_of_mem _ h2, h3, fun ys a b => .dk (h.move (upd_ne fun e => (List.nodup_cons.mp nd).1 (by rw [e]; exact h2)) (by rw [b]; exact Same.refl _)) (h5 ys a b)⟩
  | _, _, _, i + 1, .tw h s, nd, e => by
    obtain ⟨l, h1, h2, h3, h5⟩ := Slots.dk_at (i := i) s (List.nodup_cons.mp nd).2 (by simpa using e)
    exact ⟨l, by simpa using h1, List.mem_cons_of_mem _ h2, h3, fun ys a b => .tw (h.move (upd_ne fun e => (List.nodup_cons.mp nd).1 (by rw [e]; exact h2)) (by rw [b]; exact Same.refl _)) (h5 ys a b)⟩
theorem Env.dk_at {P : Hp} {L : List Addr} {n : Nat} {H : Hp} {σ : List (Option V)} {i : Nat} {kvs : List (L2.Key × D)} (E : Env c P L n H σ ρ) (h : ρ[i]? = some (.dk kvs)) : ∃ l, σ[i]? = some (some (.ref l)) ∧ l ∈ L ++ c.O ∧ KDict c.pr c.wd c.K (L ++ c.O) H l kvs ∧
    ∀ (o : HO) (lvs : List (L2.Key × D)), KDict c.pr c.wd c.K (L ++ c.O) (upd H l o) l lvs → Env c P L n (upd H l o) σ (ρ.set i (.dk lvs)) := by
  obtain ⟨Ls, sl, sb⟩ := E.slots
  have nd := sb.nodup E.nd
  obtain ⟨l, h1, h2, h3, _⟩ := sl.dk_at (lvs := kvs) nd h
  have lL := sb.subset h2
  have hm : l ∈ L ++ c.O := List.mem_append_left _ lL
  have hO : l ∉ c.O := (E.fresh l lL).2
  refine ⟨l, h1, hm, h3, fun o lvs hy => ?_⟩
  have bs : Same (hid c.B c.H0) (hid c.B (upd H l o)) := same_upd_old (E.fresh l lL).1 E.base
  obtain ⟨l', g1, g2, g3, g5⟩ := sl.dk_at (lvs := lvs) nd h
  rw [h1] at g1
  cases g1
  exact { nd := E.nd, fresh := E.fresh, slots := ⟨Ls, g5 o hy (hid_upd_in hm), sb⟩,
          lst := fun a ha => by
            by_cases e : a = l
            · exact ⟨_, by rw [e, upd_same]⟩
            · rw [upd_ne e]; exact E.lst a ha,
          bag := fun b q hb => (E.bag b q hb).move (fun o h => by rw [upd_ne fun e : b = l => hO (e ▸ (E.bO b q hb).1)]; exact h) fun o h => by rw [upd_ne fun e : q = l => hO (e ▸ (E.bO b q hb).2.1)]; exact h,
          base := bs, pers := by rw [hid_upd_in hm]; exact E.pers, bO := E.bO,
          al := fun o ho => by rw [upd_ne fun e : o = l => hO (e ▸ ho)]; exact E.al o ho }
/-! a dict as data -/
theorem we_dget1 (h : WE c td ρ n fun n1 x => ∃ kvs, x = .dct kvs ∧ WE c ty ρ n1 fun n2 y => ∃ k, keyK y = some k ∧ ∃ d, lookK kvs k = some d ∧ Φ n2 d) : WE c (tDGet td ty) ρ n Φ := fun P L σ H Q E q => by
  refine h P L σ H _ E fun x d n1 H1 s1 j1 r1 ⟨kvs, e, h1⟩ => ?_
  subst e
  have E1 := E.step s1 j1
  refine h1 P L σ H1 _ E1 fun y dy n2 H2 s2 j2 r2 ⟨k, hk, d, hl, kk⟩ => ?_
  have r3 := r1.mono (E1.sameLO s2)
  cases r3 with
  | dct hs rk =>
    obtain ⟨v, hv, rv⟩ := rk.look.1 d hl
    exact ⟨_, v, rfl, .inl ⟨_, k, same_rd same_hid hs, keyK_V r2 hk, hv.symm⟩, q v d n2 H2 (s1.trans s2) j2 rv kk⟩
theorem we_din (h : WE c ty ρ n fun n1 y => WE c td ρ n1 fun n2 x => ∃ kvs k, x = .dct kvs ∧ keyK y = some k ∧ Φ n2 (.bl (lookK kvs k).isSome)) : WE c (tDIn ty td) ρ n Φ := fun P L σ H Q E q => by
  refine h P L σ H _ E fun y dy n1 H1 s1 j1 r1 h1 => ?_
  have E1 := E.step s1 j1
  refine h1 P L σ H1 _ E1 fun x d n2 H2 s2 j2 r2 ⟨kvs, k, e, hk, kk⟩ => ?_
  subst e
  cases r2 with
  | dct hs rk =>
    refine ⟨_, _, rfl, .inl ⟨_, k, same_rd same_hid hs, keyK_V (r1.mono (E1.sameLO s2)) hk, rfl⟩, ?_⟩
    cases hl : lookK kvs k with
    | none => rw [rk.look.2 hl]; rw [hl] at kk; exact q _ _ n2 H2 (s1.trans s2) j2 (.bl _) kk
    | some d =>
      obtain ⟨v, hv, _⟩ := rk.look.1 d hl
      rw [hv]; rw [hl] at kk; exact q _ _ n2 H2 (s1.trans s2) j2 (.bl _) kk
theorem we_dnin (h : WE c ty ρ n fun n1 y => WE c td ρ n1 fun n2 x => ∃ kvs k, x = .dct kvs ∧ keyK y = some k ∧ Φ n2 (.bl (!(lookK kvs k).isSome))) : WE c (tDNotIn ty td) ρ n Φ := fun P L σ H Q E q => by
  refine h P L σ H _ E fun y dy n1 H1 s1 j1 r1 h1 => ?_
  have E1 := E.step s1 j1
  refine h1 P L σ H1 _ E1 fun x d n2 H2 s2 j2 r2 ⟨kvs, k, e, hk, kk⟩ => ?_
  subst e
  cases r2 with
  | dct hs rk =>
    refine ⟨_, _, rfl, .inl ⟨_, k, same_rd same_hid hs, keyK_V (r1.mono (E1.sameLO s2)) hk, rfl⟩, ?_⟩
    cases hl : lookK kvs k with
    | none => rw [rk.look.2 hl]; rw [hl] at kk; exact q _ _ n2 H2 (s1.trans s2) j2 (.bl _) kk
    | some d =>
      obtain ⟨v, hv, _⟩ := rk.look.1 d hl
      rw [hv]; rw [hl] at kk; exact q _ _ n2 H2 (s1.trans s2) j2 (.bl _) kk
theorem we_dget2 (h : WE c td ρ n fun n1 x => ∃ kvs, x = .dct kvs ∧ WE c ty ρ n1 fun n2 y => WE c tx ρ n2 fun n3 z => ∃ k, keyK y = some k ∧ Φ n3 ((lookK kvs k).getD z)) : WE c (tDGet2 td ty tx) ρ n Φ := fun P L σ H Q E q => by
  refine h P L σ H _ E fun x d n1 H1 s1 j1 r1 ⟨kvs, e, h1⟩ => ?_
  subst e
  have E1 := E.step s1 j1
  cases r1 with
  | dct hs0 rk0 =>
    have r1 : Rp c.K (hid (L ++ c.O) H1) (.ref _) (.dct kvs) := .dct hs0 rk0
    refine ⟨_, rfl, .inl ⟨_, same_rd same_hid hs0⟩, ?_⟩
    refine h1 P L σ H1 _ E1 fun y dy n2 H2 s2 j2 r2 h2 => ?_
    have E2 := E1.step s2 j2
    refine h2 P L σ H2 _ E2 fun z dz n3 H3 s3 j3 r3 ⟨k, hk, kk⟩ => ?_
    have r4 := (r1.mono (E1.sameLO s2)).mono (E2.sameLO s3)
    cases r4 with
    | dct hs rk =>
      refine ⟨_, .inl ⟨_, k, same_rd same_hid hs, keyK_V (r2.mono (E2.sameLO s3)) hk, rfl⟩, ?_⟩
      have s := (s1.trans s2).trans s3
      cases hl : lookK kvs k with
      | none => rw [rk.look.2 hl]; rw [hl] at kk; exact q _ _ n3 H3 s j3 r3 kk
      | some d =>
        obtain ⟨v, hv, rv⟩ := rk.look.1 d hl
        rw [hv]; rw [hl] at kk; exact q _ _ n3 H3 s j3 rv kk
section
variable {pr : Program} {wd : World} {K : PySem.W.Frag} {O : List Addr} {H : Hp} {σ : List (Option V)} {ρ : List SD} {L : List Addr}
theorem Slots.setK {l : Addr} {kvs : List (L2.Key × D)} (hx : KDict pr wd K O H l kvs) (hn : l ∉ L) : ∀ {σ : List (Option V)} {ρ : List SD} {L : List Addr} (i : Nat), i < ρ.length → Slots pr wd K O H σ ρ L →
    ∃ L1 L2 L3, Slots pr wd K O H (σ.set i (some (.ref l))) (ρ.set i (.dk kvs)) (L1 ++ l :: L2) ∧ L = L1 ++ L3 ∧ L2.Sublist L3
  | _, _, _, _, h, .nil => by simp at h
  | _, _, L, 0, _, .un s => ⟨[], L, L, .dk hx s, rfl, List.Sublist.refl _⟩
  | _, _, L, 0, _, .val _ s => ⟨[], L, L, .dk hx s, rfl, List.Sublist.refl _⟩
  | _, _, _ :: L, 0, _, .own _ _ s => ⟨[], L, _, .dk hx s, rfl, List.sublist_cons_self _ _⟩
  | _, _, _ :: L, 0, _, .dic _ s => ⟨[], L, _, .dk hx s, rfl, List.sublist_cons_self _ _⟩
  | _, _, _ :: L, 0, _, .dk _ s => ⟨[], L, _, .dk hx s, rfl, List.sublist_cons_self _ _⟩
  | _, _, _ :: L, 0, _, .tw _ s => ⟨[], L, _, .dk hx s, rfl, List.sublist_cons_self _ _⟩
  | _, _, _, i + 1, h, .un s => by
    obtain ⟨L1, L2, L3, h1, h2⟩ := Slots.setK hx hn i (by simpa using h) s
    exact ⟨L1, L2, L3, .un h1, h2⟩
  | _, _, _, i + 1, h, .val q s => by
    obtain ⟨L1, L2, L3, h1, h2⟩ := Slots.setK hx hn i (by simpa using h) s
    exact ⟨L1, L2, L3, .val q h1, h2⟩
  | _, _, _, i + 1, h, .own q r s => by
    obtain ⟨L1, L2, L3, h1, h2, h3⟩ := Slots.setK hx hn i (by simpa using h) s
    exact ⟨_ :: L1, L2, L3, .own q r h1, by rw [h2]; rfl, h3⟩
  | _, _, _, i + 1, h, .dic q s => by
    obtain ⟨L1, L2, L3, h1, h2, h3⟩ := Slots.setK hx hn i (by simpa using h) s
    exact ⟨_ :: L1, L2, L3, .dic q h1, by rw [h2]; rfl, h3⟩
  | _, _, _, i + 1, h, .dk q s => by
    obtain ⟨L1, L2, L3, h1, h2, h3⟩ := Slots.setK hx hn i (by simpa using h) s
    exact ⟨_ :: L1, L2, L3, .dk q h1, by rw [h2]; rfl, h3⟩
  | _, _, _, i + 1, h, .tw q s => by
    obtain ⟨L1, L2, L3, h1, h2, h3⟩ := Slots.setK hx hn i (by simpa using h) s
    exact ⟨_ :: L1, L2, L3, .tw q h1, by rw [h2]; rfl, h3⟩
end
/-! one's own -/
theorem ws_freezeK (i : Nat) {kvs : List (L2.Key × D)} (h : ρ[i]? = some (.dk kvs)) (k : WS c ts (ρ.set i (.val (.dct kvs))) n Ψ) : WS c ts ρ n Ψ := fun P L σ H Dn E A => by
  obtain ⟨L', E', _⟩ := E.freezeK h
  exact k P L' σ H Dn E' A
theorem wt_lookK (i : Nat) {Φ : Nat → Bool → Prop} {kvs : List (L2.Key × D)} (h : ρ[i]? = some (.dk kvs)) (k : WT c t (ρ.set i (.val (.dct kvs))) n Φ) : WT c t ρ n Φ := fun P L σ H Q E q => by
  obtain ⟨L', E', sub⟩ := E.freezeK h
  exact k P L' σ H Q E' fun b n1 H1 s1 j1 k1 => q b n1 H1 s1 j1 k1
theorem we_lookK (i : Nat) {kvs : List (L2.Key × D)} (h : ρ[i]? = some (.dk kvs)) (k : WE c te (ρ.set i (.val (.dct kvs))) n fun n1 d => scalar d = true ∧ Φ n1 d) : WE c te ρ n Φ := fun P L σ H Q E q => by
  obtain ⟨L', E', sub⟩ := E.freezeK h
  exact k P L' σ H Q E' fun v d n1 H1 s1 j1 r1 ⟨hs, k1⟩ => q v d n1 H1 s1 j1 (r1.scal hs) k1
/-- d[k], d one's own -/
theorem we_kget {i : Nat} {kvs : List (L2.Key × D)} (h0 : ρ[i]? = some (.dk kvs)) (h : WE c ty ρ n fun n2 y => ∃ k, keyK y = some k ∧ ∃ d, lookK kvs k = some d ∧ Φ n2 d) : WE c (tDGet (tVar i) ty) ρ n Φ := fun P L σ H Q E q => by
  obtain ⟨l, g1, _, _, _⟩ := E.dk_at h0
  refine ⟨.ref l, g1, ?_⟩
  refine h P L σ H _ E fun y dy n2 H2 s2 j2 r2 ⟨k, hk, d, hl, kk⟩ => ?_
  have E2 := E.step s2 j2
  obtain ⟨l', g1', _, ⟨xs, g2, g3⟩, _⟩ := E2.dk_at h0
  rw [g1] at g1'
  cases g1'
  obtain ⟨v, hv, rv⟩ := g3.look.1 d hl
  exact ⟨_, v, rfl, .inl ⟨_, k, .inl g2, keyK_V r2 hk, hv.symm⟩, q v d n2 H2 s2 j2 rv kk⟩
/-- d[k] = v, d one's own -/
theorem ws_kput {i : Nat} {kvs : List (L2.Key × D)} {tv : TE} (h0 : ρ[i]? = some (.dk kvs)) (hz : kvs.length < 16777216) (h : WE c tv ρ n fun n1 vd => WE c ty ρ n1 fun n2 y => ∃ k, keyK y = some k ∧ Ψ.nx n2 (ρ.set i (.dk (putKD kvs k vd)))) : WS c (sDPut (tVar i) ty tv) ρ n Ψ := fun P L σ H Dn E A => by
  refine h P L σ H _ E fun v vd n1 H1 s1 j1 r1 h1 => ?_
  have E1 := E.step s1 j1
  obtain ⟨l, g1, _, _, _⟩ := E1.dk_at h0
  refine ⟨.ref l, g1, ?_⟩
  refine h1 P L σ H1 _ E1 fun y dy n2 H2 s2 j2 r2 ⟨k, hk, kk⟩ => ?_
  have E2 := E1.step s2 j2
  obtain ⟨l', g1', gL, ⟨xs, g2, g3⟩, up⟩ := E2.dk_at h0
  rw [g1] at g1'
  cases g1'
  refine ⟨l, upd H2 l (.dK (putK xs k v)), rfl, .inl ⟨xs, k, g2, keyK_V r2 hk, by rw [g3.length, sizeLine_eq]; exact hz, rfl⟩, ?_⟩
  refine A.nx L n2 _ _ _ (up (.dK (putK xs k v)) (putKD kvs k vd) ⟨_, upd_same, ?_⟩) kk
  rw [hid_upd_in gL]
  exact g3.put (r1.mono (E1.sameLO s2))
theorem ws_knew {i : Nat} (hi : i < ρ.length) (k : Ψ.nx n (ρ.set i (.dk []))) : WS c (tAsg (tDNewK) (gName i)) ρ n Ψ := fun P L σ H Dn E A => by
  intro p hp
  have w := E.new hp
  have nin : p ∉ L ++ c.O := E.noO p hp
  have T := E.newT (o := .dK []) hp
  have E1 := E.step T.1 T.2.1
  have e0 : ∀ O, hid (p :: O) (upd H p (.dK [])) = hid O H := fun O => hid_new_in hp
  obtain ⟨Ls, sl0, sb⟩ := E.slots
  have sl : Slots c.pr c.wd c.K (p :: (L ++ c.O)) (upd H p (.dK [])) σ ρ Ls := sl0.move (fun l hl => upd_ne fun e => w.2.2 (e ▸ sb.subset hl)) (by rw [e0]; exact Same.refl _)
  have nd : KDict c.pr c.wd c.K (p :: (L ++ c.O)) (upd H p (.dK [])) p [] := ⟨[], upd_same, .nil⟩
  obtain ⟨L1, L2, L3, sl2, eL, sub⟩ := Slots.setK nd (fun q => w.2.2 (sb.subset q)) i hi sl
  have mv : ∃ Lp : List Addr, (L1 ++ p :: L2).Sublist Lp ∧ Lp.Perm (p :: L) := by
    rw [eL] at sb
    have h5 : (L1 ++ L2).Sublist L := (List.Sublist.append_left sub L1).trans sb
    exact ins_sub h5
  obtain ⟨Lp, sLp, pLp⟩ := mv
  have mem : ∀ a, a ∈ Lp ++ c.O ↔ a ∈ p :: (L ++ c.O) := fun a => by
    rw [show p :: (L ++ c.O) = (p :: L) ++ c.O from rfl, List.mem_append, List.mem_append, pLp.mem_iff]
  refine A.nx Lp n _ _ _ ?_ k
  exact { nd := pLp.nodup_iff.mpr (List.nodup_cons.mpr ⟨w.2.2, E.nd⟩),
          fresh := fun l hl => by
            rcases List.mem_cons.mp (pLp.mem_iff.mp hl) with q | q
            · subst q; exact ⟨w.1, w.2.1⟩
            · exact E.fresh l q,
          slots := ⟨_, sl2.move (fun _ _ => rfl) (same_hid_sub fun a ha => (mem a).mp ha), sLp⟩,
          lst := fun l hl => by
            rcases List.mem_cons.mp (pLp.mem_iff.mp hl) with q | q
            · subst q; exact ⟨_, upd_same⟩
            · exact E1.lst l q,
          bag := T.2.1,
          base := E1.base,
          pers := (E.pers.trans (by rw [e0]; exact Same.refl _)).trans (same_hid_sub fun a ha => (mem a).mp ha),
          bO := E.bO, al := E1.al }
/-- dict(d) -/
def rDictD (K : PySem.W.Frag) : List V → Hp → VK → Prop := fun vs H Q => ∃ (a : Addr) (xs : List (L2.Key × V)), vs = [.ref a] ∧ Rd H a (.dK xs) ∧ ∀ p, H p = none → Q (.ref p) (upd H p (.dK xs))
theorem rc_dict {K : PySem.W.Frag} {Φ : D → Prop} {kvs : List (L2.Key × D)} (k : Φ (.dct kvs)) : RCD K (rDictD K) [.dct kvs] Φ := fun O H xs Q rs no q => by
  obtain ⟨v, rfl, r⟩ := rs.one
  cases r with
  | dct hs rk => exact ⟨_, _, rfl, same_rd same_hid hs, fun p hp => q _ _ _ (same_upd_new hp) (.dct (.inl (hid_at (no p hp))) (rk.mono (rp_upd (K := K) hp))) k⟩
theorem x_dict {X : Cx} (K : PySem.W.Frag) : CallR X (.type "dict") (rDictD K) := by
  intro pins s σ H vs us Q I r h
  obtain ⟨a, xs, rfl, hr, q⟩ := h
  rw [Vals.ref1 r]
  exact d_copyOf I hr fun p s' hp I' => ⟨.ref p, _, I', rfl, q p hp⟩
end
end L3
/-! L3p: texts walked and searched, attributes within comprehensions, classes as callers see them. -/
namespace L3
open PySem L2
section
variable {X : Cx} (K : PySem.W.Frag)
theorem x_fld {e : Expr} {f : Str} {pos : Pos} {ta : TE} (h : PE X (.Attribute e f pos) (tFld X.K ta f)) (hK : X.K = K := by rfl) : PE X (.Attribute e f pos) (tFld K ta f) := hK ▸ h
theorem x_sfld {o value : Expr} {f : Str} {pos pos' : Pos} {ta tv : TE} (h : PS X (.Assign [.Attribute o f pos'] value pos) (sFld X.K ta tv f)) (hK : X.K = K := by rfl) : PS X (.Assign [.Attribute o f pos'] value pos) (sFld K ta tv f) := hK ▸ h
end
/-- a class as its callers see it -/
structure Mn (P : Program) (w : World) (K : PySem.W.Frag) (mg : Str → Option Value) (base : Heap) (x : Str) (k : Nat) (ps : List Str) (dv : List V) (dw : List Value) (S : SpecI) where
  C : Addr
  fI : Addr
  fd : FuncData
  M : Mk K C fI
  cl : Cls K C
  G : FnOk P w K mg base CX0 k fI fd ps (spI K C S)
  m : mg x = some (.ref C)
  b : Binds K fd ps dw
  v : Vals dv dw
section
variable {c : Ctx} {ρ : List SD} {n : Nat} {te : TE}
def signsD (z : Str) : List D := z.cps.toList.map fun u => D.str ⟨#[u]⟩
theorem it_s {z : Str} {P : Hp} : ItOk c (Its z) (signsD z) P where
  go := fun L n H σ ρ E i d hd => by
    unfold signsD at hd
    rw [List.getElem?_map] at hd
    have hi : i < z.cps.size := by
      refine Nat.lt_of_not_le fun q => ?_
      rw [List.getElem?_eq_none (by simpa using q)] at hd
      cases hd
    refine ⟨hi, fun x H' ⟨e, u, hu, hy⟩ => ?_⟩
    subst e; subst hy
    have hu' : z.cps.toList[i]? = some u := by rw [Array.getElem?_toList]; exact hu
    rw [hu'] at hd
    cases hd
    exact ⟨Same.refl _, .str _⟩
  stop := fun L n H σ ρ E i hi => by
    unfold signsD at hi
    show z.cps.size ≤ i
    simpa using hi
theorem wi_str {Φ : Nat → List D → Prop} (h : WE c te ρ n fun n1 d => ∃ z, d = .str z ∧ Φ n1 (signsD z)) : WI c (iStr te) ρ n Φ := fun P L σ H R E q => by
  refine h P L σ H _ E fun x d n1 H1 s1 j1 r1 ⟨z, e, k⟩ => ?_
  subst e
  cases r1
  exact ⟨z, rfl, q _ _ n1 H1 s1 j1 it_s k⟩
end
section
variable {K : PySem.W.Frag} {Φ : D → Prop}
theorem r2_sign {u : Nat} {z : Str} (k : Φ (.bl (decide (u ∈ z.cps.toList)))) : R2D K L2.rInS (.str ⟨#[u]⟩) (.str z) Φ := fun O H x y Q rx ry _ q => by
  cases rx; cases ry
  exact ⟨u, z, rfl, rfl, q _ _ H (Same.refl _) (.bl _) k⟩
theorem r2_notSign {u : Nat} {z : Str} (k : Φ (.bl (!decide (u ∈ z.cps.toList)))) : R2D K L2.rNotInS (.str ⟨#[u]⟩) (.str z) Φ := fun O H x y Q rx ry _ q => by
  cases rx; cases ry
  exact ⟨u, z, rfl, rfl, q _ _ H (Same.refl _) (.bl _) k⟩
end
end L3
/-! L3q: constants of the module, __init__ with defaults. -/
namespace L3
open PySem L2
section
variable {c : Ctx} {ρ : List SD} {n : Nat} {Φ : Nat → D → Prop}
theorem we_const {v : V} {d : D} (h : ∀ H, Rp c.K H v d) (k : Φ n d) : WE c (tC v) ρ n Φ := fun P L σ H Q E q => q v d n H (Same.refl _) E.bag (h _) k
end
section
variable {P : Program} {w : World} {K : PySem.W.Frag} {mg : Str → Option Value} {base : Heap} {C : Addr}
theorem fn_ID {x qual : Str} {st : Stmt} {fa : Addr} {fd : FuncData} {N ps : List Str} {k : Nat} {S : SpecI} {dvs : List V} (F : FunD K x qual (defArgs st) (defBody st) (defScope st) dvs [] fa fd) (sc : FnScope N ps (defScope st))
    (len : ∀ bag n ds Φ, S bag n ds Φ → ds.length + 1 = ps.length)
    (body : ∀ (cdv : Value) (A : Around) (outer : List PySem.Env) (s : Shared) (H : Hp) (E : XK) (O : List Addr) (bag : Option (Addr × Addr)) (n : Nat) (ds : List D) (Φ : Nat → List (Str × D) → Prop) (p dx : Addr), Room k (A.deeper (PyProof.Rows.envOfC qual (defScope st) s.heap.objs.size fa cdv)) → S bag n ds Φ →
      ∃ t, PSs (cxOf CX0 P w K mg base N qual (defScope st) fa cdv A outer s H E).nox (defBody st) t ∧ WN P w K O bag p C dx t (rho N (.adr p :: ds)) n [] Φ) :
    FnOk P w K mg base CX0 (k + 1) fa fd ps (spI K C S) := by
  refine F.ok sc (fun vs H Q E h => ?_) (fun cdv A outer s H vs Q E hr h => ?_)
  · obtain ⟨O, bag, n, ds, Φ, p, dx, ws, rfl, _, _, _, _, r, hS, _⟩ := h
    rw [List.length_cons, r.length]; exact len bag n ds Φ hS
  · obtain ⟨O, bag, n, ds, Φ, p, dx, ws, rfl, hp, pO, hb, hO, r, hS, q⟩ := h
    obtain ⟨t, ht, W⟩ := body cdv A outer s H E O bag n ds Φ p dx hr hS
    refine ⟨t, ht.nox, W H _ [] _ hp pO .nil ?_ fun σ' fs' ks' n' H' s' b' hp' hf' kk' => q fs' ks' n' H' s' b' hp' hf' kk'⟩
    have r' : RpAll K (hid (p :: O) H) (.ref p :: ws) (.adr p :: ds) := .cons (.adr p) r
    have e : L2.start N (.ref p :: ws) = (.ref p :: ws).map some ++ List.replicate (N.length - (D.adr p :: ds).length) none := by unfold L2.start; rw [r'.length]
    exact { nd := List.nodup_nil, fresh := (fun l hl => nomatch hl), slots := ⟨[], by rw [e]; exact slots_start r', List.Sublist.refl _⟩, lst := (fun l hl => nomatch hl), bag := fun b q e => (hb b q e).1, base := Same.refl _,
            pers := (fun _ _ e => nomatch e), bO := fun b q e => ⟨List.mem_cons_of_mem _ (hb b q e).2.1, List.mem_cons_of_mem _ (hb b q e).2.2.1, (hb b q e).2.2.2⟩,
            al := fun o ho => by
              rcases List.mem_cons.mp ho with z | z
              · rw [z, hp]; exact fun z => nomatch z
              · exact hO o z }
end
end L3
/-! L3r: enumerate over a tuple. -/
namespace PySem
open PySem.W PyProof.Rows
theorem l3_enum_new1 {v : Value} {o : Obj} {H : Heap → Prop} (B : Begins v o H) :
    Meets (Builtin.«enumerate.__new__» ⟨[.type "enumerate", v], []⟩) (fun _ R s => H s.heap ∧
      R (.ok (.ret (.ref (s.heap.push o).objs.size))) { s with heap := (s.heap.push o).push { cls := .type "enumerate", data := .fields #[.none, .bool false, .ref s.heap.objs.size, rawInt 0, .none, .none] } }) :=
  .of_wp fun prog w A R s h => by
    obtain ⟨hp, g, d, tk, os⟩ := s; obtain ⟨h1, h⟩ := h
    have hsub := sub_enumerate
    have q1 : ∀ {A' : Around} {E : Value → Shared → Prop} {Q : Value → Shared → Prop}, Q (.ref hp.objs.size) ⟨hp.push o, g, d, tk, os⟩ → wpAny (model prog w) A' (pyIter v) Q E ⟨hp, g, d, tk, os⟩ :=
      fun q => B.iter prog w _ _ ⟨hp, g, d, tk, os⟩ _ h1 q
    wp_walk using q1
    refine wpAny_stack_any fun st => wpAny_pure ?_
    split
    · rename_i c _ _ _ _ _
      cases (c == Value.type "enumerate")
      · wp_walk using q1
        exact ⟨_, rfl, h⟩
      · wp_walk using q1
        exact ⟨_, rfl, h⟩
    · wp_walk using q1
      exact ⟨_, rfl, h⟩
theorem l3_enum_call1 {prog : Program} {w : World} {A : Around} {E : Value → Shared → Prop} {s : Shared} {v : Value} {o : Obj} {H : Heap → Prop} {Q : Value → Shared → Prop} (B : Begins v o H) (h1 : H s.heap)
    (h : ∀ h', IsEnum h' (s.heap.objs.size + 1) s.heap.objs.size 0 .none → h'.get? s.heap.objs.size = some o → h'.objs.size = s.heap.objs.size + 2 →
      (∀ b o, s.heap.get? b = some o → h'.get? b = some o) → Q (.ref (s.heap.objs.size + 1)) { s with heap := h' }) :
    wpAny (model prog w) A (call (.type "enumerate") [v]) Q E s := by
  refine callType_new F.called_enumerate (by decide) (F.typeCall_enumerate_1 _) (F.newCall_enumerate_1 _) (fun obj => F.args_object_init_2 obj _) F.entry_enumerate_new
    (l3_enum_new1 B) ⟨h1, ?_⟩
  have hz : (s.heap.push o).objs.size = s.heap.objs.size + 1 := Heap.size_push ..
  show _ ∧ _
  rw [hz]
  have he : IsEnum ((s.heap.push o).push { cls := .type "enumerate", data := .fields #[.none, .bool false, .ref s.heap.objs.size, rawInt 0, .none, .none] }) (s.heap.objs.size + 1) s.heap.objs.size 0 .none := by
    have := Heap.get?_push_size (s.heap.push o) (o := { cls := .type "enumerate", data := .fields #[.none, .bool false, .ref s.heap.objs.size, rawInt 0, .none, .none] }) rfl
    rw [hz] at this; exact this
  refine ⟨⟨_, he, rfl⟩, h _ he (Heap.get?_push_of_some _ (Heap.get?_push_size _ B.free)) (by rw [Heap.size_push, hz]) fun b o x => Heap.get?_push_of_some _ (Heap.get?_push_of_some _ x)⟩
end PySem
/-! L3s: enumerate over a tuple. -/
namespace L2
open PySem PySem.Spec PyProof.Rows
def IteT (K : PySem.W.Frag) (a : Addr) (n0 : Nat) : It :=
  ⟨fun i H => ∃ (xs : List V) (x : V), SqT K H a xs ∧ xs.length = n0 ∧ xs[i]? = some x, fun i H v H' => ∃ T x, v = .ref T ∧ H T = none ∧ H' = upd H T (.tup [.int (i : Nat), x]) ∧ ∀ xs, SqT K H a xs → xs[i]? = some x, fun i H => ∃ xs : List V, SqT K H a xs ∧ xs.length = n0 ∧ n0 ≤ i⟩
theorem turn_enumT {P : Program} {w : World} {K : PySem.W.Frag} {elts : List Expr} {kk : Nat} {tpos : Pos} (a e it : Addr) (n0 : Nat) (hea : a ≠ it) :
    Turn P w K (.Tuple elts kk tpos) (IteT K a n0) [e, it] e (fun i h => (∃ old, IsEnum h e it ((i : Nat) : Int) old) ∧ h.IsTupleIter it a i ∧ e ≠ it ∧ a ≠ e ∧ i ≤ n0) where
  mem := by simp
  obj := fun i h st b hb => by
    obtain ⟨⟨old, he⟩, ⟨o, ho, hc, hd⟩, _⟩ := st
    have e' : b = e ∨ b = it := by simpa using hb
    rcases e' with z | z
    · rw [z]; exact ⟨_, he, fun v q => nomatch q⟩
    · rw [z]; exact ⟨o, ho, fun v q => by rw [hd] at q; cases q⟩
  keep := fun i h h' st k => let ⟨⟨old, he⟩, hi, hne⟩ := st; ⟨⟨old, k e (by simp) _ he⟩, hi.at fun o q => k it (by simp) o q, hne⟩
  item := by
    intro X hP hw hK hc i pins s σ H E I hf st hg
    subst hP hw hK
    obtain ⟨⟨old, he⟩, hit, hne, hae, hin⟩ := st
    obtain ⟨xs, x, hq, hxl, hx⟩ := hg
    obtain ⟨its, rv, p, hz⟩ := I.tuple hq
    obtain ⟨u, hu, ru⟩ := rv.get hx
    have hel : e < s.heap.objs.size := Heap.lt_size he
    have hil : it < s.heap.objs.size := by obtain ⟨_, q, _⟩ := hit; exact Heap.lt_size q
    have hlt : i < its.toArray.size := by
      have := (List.getElem?_eq_some_iff.mp hu).1
      simpa using this
    refine wpAny_pyNext_enum_itemC (Draws.tuple (show X.A.in1.handled = none from I.ok.hd hc) it a hea its.toArray) he ⟨hit, show s.heap.IsTuple a its.toArray from p⟩ hlt hne (by simp [hne, Ne.symm hae]) fun u' h' tk hP ho hit' hT hsz hk => ?_
    have eu : u' = u := by
      have h1 : its[i]? = some u' := by simpa using hP
      rw [hu] at h1
      exact (Option.some.inj h1).symm
    subst eu
    refine ⟨_, rfl, wpAny_letOwnedTupleGo_enum (s := { s with heap := h', toks := tk + 1 }) ho fun h'' he' sb => ?_⟩
    have hT2 : h''.get? s.heap.objs.size = some { cls := .type "tuple", data := .seq #[.int i tk, u'] } := (sb.2 _ (Nat.ne_of_gt hel)).trans hT
    have new : ObjOk X.prog X.w (upd H s.heap.objs.size (.tup [.int (i : Nat), x])) h'' s.heap.objs.size (.tup [.int (i : Nat), x]) :=
      ⟨by show 2 ≤ sizeLine; decide, [.int i tk, u'], .cons ⟨_, rfl⟩ (.cons ru .nil), ⟨_, hT2, rfl, _, rfl⟩⟩
    have I1 : Inv X pins σ (upd H s.heap.objs.size (.tup [.int (i : Nat), x])) { s with heap := h'', toks := tk + 1 } :=
      I.turnedNew (ch := [e, it]) (fun b ob hb q => (sb.2 b (fun z => hb (by simp [z]))).trans (hk b ob (fun z => hb (by simp [z])) (fun z => hb (by simp [z])) q)) hf (Nat.le_refl _) new
    refine ⟨.ref s.heap.objs.size, _, I1, rfl, ⟨_, x, rfl, I.hok.fresh (Nat.le_refl _), rfl, fun ys hy => by rw [I.tuple_inj hy hq]; exact hx⟩, ⟨⟨u', ?_⟩, hit'.1.at fun o q => (sb.2 it (Ne.symm hne)).trans q, hne, hae, by have := (List.getElem?_eq_some_iff.mp hx).1; omega⟩, fun b hb => ?_⟩
    · have e1 : ((i + 1 : Nat) : Int) = (i : Int) + 1 := by omega
      rw [e1]; exact he'
    · have hb' : b < s.heap.objs.size := by
        have e' : b = e ∨ b = it := by simpa using hb
        rcases e' with z | z
        · rw [z]; exact hel
        · rw [z]; exact hil
      rw [upd_ne (Nat.ne_of_lt hb')]
      exact (hf b hb).1
  done := by
    intro X hP hw hK hc i pins s σ H E I hf st hg
    subst hP hw hK
    obtain ⟨⟨old, he⟩, hit, hne, hae, hin⟩ := st
    obtain ⟨xs, hq, hxl, hx⟩ := hg
    obtain ⟨its, rv, p, hz⟩ := I.tuple hq
    obtain ⟨f0, f1, f2, f3, f4, f5⟩ := hf it (by simp)
    have hl := rv.length
    have ei : i = its.toArray.size := by simp; omega
    subst ei
    exact wpAny_pyNext_enum_endD (Draws.tuple (show X.A.in1.handled = none from I.ok.hd hc) it a hea its.toArray) he ⟨hit, show s.heap.IsTuple a its.toArray from p⟩ fun h' eb => ⟨rfl, I.turned (t' := s.toks) (fun b o hb q => eb b o hb q) f0 f1 f3 f4 f5⟩
  self := fun A i s Q E st h => let ⟨⟨_, he⟩, _⟩ := st; wpAny_pyIter_enum he h
def iEnumT (K : PySem.W.Frag) (ta : TA) : TI := fun σ H R => ta σ H fun vs H1 => ∃ a xs, vs = [.ref a] ∧ SqT K H1 a xs ∧ R (IteT K a xs.length) H1
theorem pi_enumT {X : Cx} {e : Expr} {ta : TA} {p pos tpos : Pos} {elts : List Expr} {kk : Nat} (hg : Gl X "enumerate") (hm : X.mg "enumerate" = none) (ha : PA X [e] ta) (hs : starEach [e] X.env = [(false, eval e X.env)] := by rfl) :
    PI X (.Tuple elts kk tpos) (.Call (.Name "enumerate" p) [e] [] pos) (iEnumT X.K ta) := by
  refine ⟨fun pins s σ H R I h => ?_⟩
  refine Call_ (ld_blt I hg hm boot_enumerate (PyProof.Rows.callWith_type1 (thn (ha.run pos pins s σ H _ I h) fun us s1 ⟨vs, H1, I1, r1, q1⟩ => ?_) hs rfl))
  obtain ⟨a, xs, ex, hq, q⟩ := q1
  subst ex
  cases r1 with
  | cons r rr =>
    cases rr
    cases r
    obtain ⟨its, rv, p', hz⟩ := I1.tuple hq
    have ipt : s1.heap.IsTuple a its.toArray := p'
    have hal : a < s1.heap.objs.size := by
      obtain ⟨o, ho, _⟩ := ipt
      exact Heap.lt_size ho
    refine l3_enum_call1 (begins_tuple a its.toArray) ipt fun h' he hit hsz hk => wpAny_pyIter_enum he ?_
    have I2 : Inv X pins σ H1 { s1 with heap := h' } := I1.kept (t' := s1.toks) hk
    refine ⟨s1.heap.objs.size + 1, [s1.heap.objs.size + 1, s1.heap.objs.size], _, _, H1, rfl, I2, turn_enumT a (s1.heap.objs.size + 1) s1.heap.objs.size xs.length (Nat.ne_of_lt hal), ⟨⟨.none, he⟩, ⟨_, hit, rfl, rfl⟩, Nat.succ_ne_self _, Nat.ne_of_lt (Nat.lt_succ_of_lt hal), Nat.zero_le _⟩, fun b hb => ?_, q⟩
    have e' : b = s1.heap.objs.size + 1 ∨ b = s1.heap.objs.size := by simpa using hb
    have hle : s1.heap.objs.size ≤ b := by
      rcases e' with z | z
      · rw [z]; exact Nat.le_add_right _ _
      · rw [z]; exact Nat.le_refl _
    exact I1.fpOk hle (I1.hok.fresh hle)
end L2
namespace L3
open PySem L2
theorem x_enumT {X : Cx} (K : PySem.W.Frag) {e : Expr} {ta : TA} {p pos tpos : Pos} {elts : List Expr} {kk : Nat} (hg : Gl X "enumerate") (hm : X.mg "enumerate" = none) (ha : PA X [e] ta) (hs : starEach [e] X.env = [(false, eval e X.env)] := by rfl) (hK : X.K = K := by rfl) :
    PI X (.Tuple elts kk tpos) (.Call (.Name "enumerate" p) [e] [] pos) (iEnumT K ta) := hK ▸ pi_enumT hg hm ha hs
section
variable {c : Ctx} {ρ : List SD} {n : Nat} {as : TA}
theorem it_eT {a : Addr} {xs : List V} {ds : List D} {P : Hp} (hs : SqT c.K P a xs) (hr : RpAll c.K P xs ds) : ItOk c (IteT c.K a xs.length) (enumD 0 ds) P where
  go := fun L n H σ ρ E i d hd => by
    obtain ⟨e, h1, h2⟩ := enumD_get hd
    obtain ⟨v, g1, g2⟩ := hr.get' h1
    subst h2
    refine ⟨⟨xs, v, same_t E.perR hs, rfl, g1⟩, fun x H' ⟨T, y, e1, e2, e3, hy⟩ => ?_⟩
    subst e1; subst e3
    have e4 := hy xs (same_t E.perR hs)
    rw [g1] at e4
    cases e4
    have sm := same_upd_new (o := .tup [.int (i : Nat), v]) e2
    refine ⟨sm, .tup (.inl (.inl (hid_at (E.noO T e2)))) (.cons ?_ (.cons ((g2.mono E.pers).mono (same_hid_of sm)) .nil))⟩
    have e5 : (0 : Int) + (i : Int) = (i : Int) := by omega
    rw [e5]
    exact .int _
  stop := fun L n H σ ρ E i hi => by
    rw [enumD_len] at hi
    exact ⟨xs, same_t E.perR hs, rfl, by rw [hr.length]; exact hi⟩
theorem wi_enumT {Φ : Nat → List D → Prop} (h : WA c as ρ n fun n1 ds => ∃ xs, ds = [.tup xs] ∧ Φ n1 (enumD 0 xs)) : WI c (iEnumT c.K as) ρ n Φ := fun P L σ H R E q => by
  refine h P L σ H _ E fun vs ds n1 H1 s1 j1 r1 ⟨xs, e, k⟩ => ?_
  subst e
  cases r1 with
  | cons r rr =>
    cases rr
    cases r with
    | tup hs ha => exact ⟨_, _, rfl, same_t same_hid hs, q _ _ n1 H1 s1 j1 (it_eT hs ha) k⟩
end
end L3
/-! L3t: a tuple whose head is a dict of one's own; more of own lists and dicts. -/
namespace L3
open PySem L2
theorem nd_rp {pr : Program} {wd : World} {K : PySem.W.Frag} {O O' : List Addr} {H : Hp} {l : Addr} {kvs : List (D × D)} (h : NDict pr wd K O H l kvs) (b : l ∉ O') (a : Same (hid O H) (hid O' H)) : Rp K (hid O' H) (.ref l) (.dcn pr wd kvs) := by
  obtain ⟨xs, h1, h2, h3⟩ := h
  exact .dcn (.inl (by rw [hid_out b]; exact h1)) h2 ((RpNs.of h3).mono a)
/-- the same, locked or not -/
def NDictR (pr : Program) (wd : World) (K : PySem.W.Frag) (O : List Addr) (H : Hp) (l : Addr) (kvs : List (D × D)) : Prop :=
  ∃ xs, Rd H l (.ext (DictBare pr wd xs l)) ∧ (l == sysModules) = false ∧ Paired (EntD K (hid O H)) kvs xs
theorem nd_ofR {X : Cx} {pins : List (Addr × Obj)} {σ : L2.St} {H : Hp} {s : Shared} (I : Inv X pins σ H s) {O : List Addr} {l : Addr} {kvs : List (D × D)} {xs : List (NestedKey × Addr × Value)} (h1 : Rd H l (.ext (DictBare X.prog X.w xs l))) (h3 : Paired (EntD X.K (hid O H)) kvs xs) : s.heap.DictOfH (nestedKind X.prog X.w) l xs := by
  obtain ⟨⟨o, es, ep, e1, e2, e3, e4, e5⟩, _⟩ := h1.ok I.hok
  refine ⟨o, es, ep, e1, e2, e3, e4, fun x hx => ?_, e5⟩
  have key : ∀ {kvs : List (D × D)} {xs : List (NestedKey × Addr × Value)}, Paired (EntD X.K (hid O H)) kvs xs → x ∈ xs → (nestedKind X.prog X.w).is s.heap x.1 x.2.1 := by
    intro kvs xs h
    induction h with
    | nil => intro q; cases q
    | cons h t ih =>
      intro q
      rcases List.mem_cons.mp q with q | q
      · subst q
        obtain ⟨g1, g2, g3, _⟩ := h
        obtain ⟨a, ea, eb, is⟩ := key_is I g3 rfl g1
        cases eb
        rw [g2]; exact is
      · exact ih q
  exact key h3 hx
theorem nd_of_rp {pr : Program} {wd : World} {K : PySem.W.Frag} {O : List Addr} {H : Hp} {x : V} {kvs : List (D × D)} (h : Rp K (hid O H) x (.dcn pr wd kvs)) : ∃ l, x = .ref l ∧ NDictR pr wd K O H l kvs := by
  cases h with
  | dcn h1 h2 h3 => exact ⟨_, rfl, _, same_rd same_hid h1, h2, h3.pair⟩
def rIxR (pr : Program) (wd : World) (K : PySem.W.Frag) : R2 := fun x y H Q => ∃ (O : List Addr) (l : Addr) (kvs : List (D × D)) (kd v : D), x = .ref l ∧ NDictR pr wd K O H l kvs ∧ Rp K (hid O H) y kd ∧ keyD kd = true ∧ lookD kvs kd = some v ∧ ∀ u, Rp K (hid O H) u v → Q u H
theorem x_ixR {X : Cx} (pr : Program) (wd : World) (K : PySem.W.Frag) (hu : X.A.units + 64 < cLine) (hp : X.prog = pr := by rfl) (hw : X.w = wd := by rfl) (hK : X.K = K := by rfl) : IxR X (rIxR pr wd K) := by
  subst hp; subst hw; subst hK
  intro value slice pins s σ H x y v u Q I rx ry h hs
  obtain ⟨O, l, kvs, kd, vd, rfl, ⟨xs, n1, n2, n3⟩, rk, hk, hl, q⟩ := h
  cases rx
  obtain ⟨a, ea, eb, is⟩ := key_is I rk ry hk
  subst eb
  have dd := nd_ofR I n1 n3
  rcases ent_look (kd := kd) n3 with ⟨e1, _⟩ | ⟨v', a', u', w, e1, e2, e3, e4⟩
  · rw [e1] at hl; cases hl
  · rw [e1] at hl
    cases hl
    refine PyProof.Rows.tail_any dd.typeIs PySem.F.slot_dict_getitem.lookup ?_ hs
    exact wpAny_getItem_heap (by show X.A.in1.units + 8 < cLine; have : X.A.in1.units = X.A.units + 1 := rfl; omega) is dd e2 ⟨w, H, I.tok _, e3, q w e4⟩
section
variable {c : Ctx} {ρ : List SD} {n : Nat} {ta tb te td ty tx : TE} {t u : TT} {as : TA} {Φ : Nat → D → Prop} {Ψ : Out} {ts us : TS}
/-! ### results that hang on no dict -/
theorem rd_drop {O : List Addr} {H : Hp} {l a : Addr} {x : HO} (hn : ¬ Rd H l x) (h : Rd (hid O H) a x) : Rd (hid (l :: O) H) a x := by
  have ne : a ≠ l := fun e => hn (by rw [← e]; exact same_rd same_hid h)
  have e : hid (l :: O) H a = hid O H a := by
    unfold hid
    by_cases q : a ∈ O
    · rw [if_pos q, if_pos (List.mem_cons_of_mem _ q)]
    · rw [if_neg q, if_neg (by simp [ne, q])]
  unfold Rd
  rw [e]; exact h
def NoSeq (H : Hp) (l : Addr) : Prop := ∀ xs, ¬ Rd H l (.lst xs) ∧ ¬ Rd H l (.tup xs)
theorem noSeq_ext {H : Hp} {l : Addr} {φ : Heap → Prop} (h : H l = some (.ext φ)) : NoSeq H l := fun xs => by
  constructor <;> rintro (q | ⟨o, q⟩) <;> (rw [h] at q; cases q)
theorem noSeq_dK {H : Hp} {l : Addr} {kvs : List (L2.Key × V)} (h : H l = some (.dK kvs)) : NoSeq H l := fun xs => by
  constructor <;> rintro (q | ⟨o, q⟩) <;> (rw [h] at q; cases q)
mutual
theorem rp_drop {K : PySem.W.Frag} {O : List Addr} {H : Hp} {l : Addr} (hl : NoSeq H l) : ∀ (d : D) (v : V), Rp K (hid O H) v d → plain d = true → Rp K (hid (l :: O) H) v d
  | .non, _, h, _ => by cases h; exact .non
  | .bl b, _, h, _ => by cases h; exact .bl b
  | .int i, _, h, _ => by cases h; exact .int i
  | .str x, _, h, _ => by cases h; exact .str x
  | .lst xs, _, h, p => by
    cases h with
    | lst h r => exact .lst (rd_drop (hl _).1 h) (rp_drops hl xs _ r p)
  | .tup xs, _, h, p => by
    cases h with
    | tup h r =>
      refine .tup ?_ (rp_drops hl xs _ r p)
      rcases h with h | h
      · exact .inl (rd_drop (hl _).2 h)
      · exact .inr h
  | .obj _ _, _, _, p => by cases p
  | .adr _, _, _, p => by cases p
  | .ty _, _, _, p => by cases p
  | .dct _, _, _, p => by cases p
  | .dcn _ _ _, _, _, p => by cases p
theorem rp_drops {K : PySem.W.Frag} {O : List Addr} {H : Hp} {l : Addr} (hl : NoSeq H l) : ∀ (ds : List D) (vs : List V), RpAll K (hid O H) vs ds → plainAll ds = true → RpAll K (hid (l :: O) H) vs ds
  | [], _, h, _ => by cases h; exact .nil
  | x :: xs, _, h, p => by
    cases h with
    | cons h r =>
      have p' : (plain x && plainAll xs) = true := p
      rw [Bool.and_eq_true] at p'
      exact .cons (rp_drop hl x _ h p'.1) (rp_drops hl xs _ r p'.2)
end
theorem rp_back {K : PySem.W.Frag} {L L' O : List Addr} {H : Hp} {l : Addr} {v : V} {d : D} (hl : NoSeq H l) (hL : ∀ a ∈ L, a = l ∨ a ∈ L') (r : Rp K (hid (L' ++ O) H) v d) (p : plain d = true) : Rp K (hid (L ++ O) H) v d :=
  (rp_drop hl d v r p).mono (same_hid_sub fun a ha => by
    rcases List.mem_append.mp ha with q | q
    · rcases hL a q with e | e
      · rw [e]; exact List.mem_cons_self
      · exact List.mem_cons_of_mem _ (List.mem_append_left _ e)
    · exact List.mem_cons_of_mem _ (List.mem_append_right _ q))
theorem Slots.freezeW {pr : Program} {wd : World} {K : PySem.W.Frag} {O : List Addr} {H : Hp} {l : Addr} {kvs : List (D × D)} {ds : List D} : ∀ {σ : List (Option V)} {ρ : List SD} {L : List Addr} {i : Nat}, Slots pr wd K O H σ ρ L → ρ[i]? = some (.tw l kvs ds) → ∃ L1 L2 t, L = L1 ++ l :: L2 ∧ TDict pr wd K O H t l kvs ds ∧
    ∀ O' , Same (hid O H) (hid O' H) → l ∉ O' → Slots pr wd K O' H σ (ρ.set i (.val (.tup (.dcn pr wd kvs :: ds)))) (L1 ++ L2)
  | _, _, _, _, .nil, e => by simp at e
  | _, _, _, 0, .un _, e => by simp at e
  | _, _, _, i + 1, .un s, e => by
    obtain ⟨L1, L2, t, h1, h2, h4⟩ := Slots.freezeW (i := i) s (by simpa using e)
    exact ⟨L1, L2, t, h1, h2, fun O' a b => .un (h4 O' a b)⟩
  | _, _, _, 0, .val _ _, e => by simp at e
  | _, _, _, i + 1, .val r s, e => by
    obtain ⟨L1, L2, t, h1, h2, h4⟩ := Slots.freezeW (i := i) s (by simpa using e)
    exact ⟨L1, L2, t, h1, h2, fun O' a b => .val (r.mono a) (h4 O' a b)⟩
  | _, _, _, 0, .own h r s, e => by simp at e
  | _, _, _, i + 1, .own h r s, e => by
    obtain ⟨L1, L2, t, h1, h2, h4⟩ := Slots.freezeW (i := i) s (by simpa using e)
    exact ⟨_ :: L1, L2, t, by rw [h1]; rfl, h2, fun O' a b => .own h (r.mono a) (h4 O' a b)⟩
  | _, _, _, 0, .dic _ _, e => by simp at e
  | _, _, _, 0, .dk _ s, e => by simp at e
  | _, _, _, 0, .tw ⟨vs, h, r, n⟩ s, e => by
    simp at e
    obtain ⟨rfl, rfl, rfl⟩ := e
    exact ⟨[], _, _, rfl, ⟨vs, h, r, n⟩, fun O' a b => .val (.tup (same_t a h) (.cons (nd_rp n b a) (r.mono a))) (s.move (fun _ _ => rfl) a)⟩
  | _, _, _, i + 1, .dic h s, e => by
    obtain ⟨L1, L2, t, h1, h2, h4⟩ := Slots.freezeW (i := i) s (by simpa using e)
    exact ⟨_ :: L1, L2, t, by rw [h1]; rfl, h2, fun O' a b => .dic (h.move rfl a) (h4 O' a b)⟩
  | _, _, _, i + 1, .dk h s, e => by
    obtain ⟨L1, L2, t, h1, h2, h4⟩ := Slots.freezeW (i := i) s (by simpa using e)
    exact ⟨_ :: L1, L2, t, by rw [h1]; rfl, h2, fun O' a b => .dk (h.move rfl a) (h4 O' a b)⟩
  | _, _, _, i + 1, .tw h s, e => by
    obtain ⟨L1, L2, t, h1, h2, h4⟩ := Slots.freezeW (i := i) s (by simpa using e)
    exact ⟨_ :: L1, L2, t, by rw [h1]; rfl, h2, fun O' a b => .tw (h.move rfl a) (h4 O' a b)⟩
theorem Env.freezeW {P : Hp} {L : List Addr} {n : Nat} {H : Hp} {σ : List (Option V)} {i : Nat} {l : Addr} {kvs : List (D × D)} {ds : List D} (E : Env c P L n H σ ρ) (h : ρ[i]? = some (.tw l kvs ds)) : ∃ L', Env c P L' n H σ (ρ.set i (.val (.tup (.dcn c.pr c.wd kvs :: ds)))) ∧ L'.Sublist L ∧ (∀ a ∈ L, a = l ∨ a ∈ L') ∧ l ∈ L ∧ ∃ xs, H l = some (.ext (DictBare c.pr c.wd xs l)) := by
  obtain ⟨Ls, sl, sb⟩ := E.slots
  obtain ⟨L1, L2, t, h1, ⟨vs, q1, q2, xs, h2, q3⟩, h4⟩ := sl.freezeW h
  have lL : l ∈ L := sb.subset (by rw [h1]; simp)
  have sub : (L.erase l).Sublist L := List.erase_sublist
  have nl : l ∉ L.erase l := E.nd.not_mem_erase
  have sb2 : (L1 ++ L2).Sublist (L.erase l) := by
    have nd := sb.nodup E.nd
    rw [h1] at nd
    have n1 : l ∉ L1 := fun q => by
      have := (List.nodup_append.mp nd).2.2 l q l List.mem_cons_self
      exact this rfl
    have q : (Ls.erase l).Sublist (L.erase l) := sb.erase l
    rw [h1, List.erase_append_right _ n1, List.erase_cons_head] at q
    exact q
  have nO : l ∉ (L.erase l) ++ c.O := fun q => by
    rcases List.mem_append.mp q with q | q
    · exact nl q
    · exact (E.fresh l lL).2 q
  have se : Same (hid (L ++ c.O) H) (hid ((L.erase l) ++ c.O) H) := same_hid_sub fun a ha => by
    rcases List.mem_append.mp ha with q | q
    · exact List.mem_append_left _ (sub.subset q)
    · exact List.mem_append_right _ q
  exact ⟨L.erase l, { nd := sub.nodup E.nd, fresh := fun l hl => E.fresh l (sub.subset hl), slots := ⟨_, h4 _ se nO, sb2⟩, lst := fun l hl => E.lst l (sub.subset hl), base := E.base, pers := E.pers.trans se, bO := E.bO, al := E.al, bag := E.bag }, sub, fun a ha => by by_cases q : a = l; exact .inl q; exact .inr ((List.mem_erase_of_ne q).mpr ha), lL, _, h2⟩
theorem Env.freezeK2 {P : Hp} {L : List Addr} {n : Nat} {H : Hp} {σ : List (Option V)} {i : Nat} {kvs : List (L2.Key × D)} (E : Env c P L n H σ ρ) (h : ρ[i]? = some (.dk kvs)) : ∃ L', Env c P L' n H σ (ρ.set i (.val (.dct kvs))) ∧ L'.Sublist L ∧ ∃ l xs, (∀ a ∈ L, a = l ∨ a ∈ L') ∧ l ∈ L ∧ H l = some (.dK xs) := by
  obtain ⟨Ls, sl, sb⟩ := E.slots
  obtain ⟨L1, l, L2, xs, h1, h2, h3, h4⟩ := sl.freezeK h
  have lL : l ∈ L := sb.subset (by rw [h1]; simp)
  have sub : (L.erase l).Sublist L := List.erase_sublist
  have nl : l ∉ L.erase l := E.nd.not_mem_erase
  have sb2 : (L1 ++ L2).Sublist (L.erase l) := by
    have nd := sb.nodup E.nd
    rw [h1] at nd
    have n1 : l ∉ L1 := fun q => by
      have := (List.nodup_append.mp nd).2.2 l q l List.mem_cons_self
      exact this rfl
    have q : (Ls.erase l).Sublist (L.erase l) := sb.erase l
    rw [h1, List.erase_append_right _ n1, List.erase_cons_head] at q
    exact q
  have nO : l ∉ (L.erase l) ++ c.O := fun q => by
    rcases List.mem_append.mp q with q | q
    · exact nl q
    · exact (E.fresh l lL).2 q
  have se : Same (hid (L ++ c.O) H) (hid ((L.erase l) ++ c.O) H) := same_hid_sub fun a ha => by
    rcases List.mem_append.mp ha with q | q
    · exact List.mem_append_left _ (sub.subset q)
    · exact List.mem_append_right _ q
  exact ⟨L.erase l, { nd := sub.nodup E.nd, fresh := fun l hl => E.fresh l (sub.subset hl), slots := ⟨_, h4 _ se nO, sb2⟩, lst := fun l hl => E.lst l (sub.subset hl), base := E.base, pers := E.pers.trans se, bO := E.bO, al := E.al, bag := E.bag }, sub, l, xs, fun a ha => by by_cases q : a = l; exact .inl q; exact .inr ((List.mem_erase_of_ne q).mpr ha), lL, h2⟩
theorem Slots.tw_at {pr : Program} {wd : World} {K : PySem.W.Frag} {O : List Addr} {H : Hp} {l : Addr} {kvs lvs : List (D × D)} {ds : List D} : ∀ {σ : List (Option V)} {ρ : List SD} {L : List Addr} {i : Nat}, Slots pr wd K O H σ ρ L → L.Nodup → ρ[i]? = some (.tw l kvs ds) → ∃ t, σ[i]? = some (some (.ref t)) ∧ l ∈ L ∧ TDict pr wd K O H t l kvs ds ∧
    ∀ (o : HO), NDict pr wd K O (upd H l o) l lvs → hid O (upd H l o) = hid O H → Slots pr wd K O (upd H l o) σ (ρ.set i (.tw l lvs ds)) L
  | _, _, _, _, .nil, _, e => by simp at e
  | _, _, _, 0, .un _, _, e => by simp at e
  | _, _, _, i + 1, .un s, nd, e => by
    obtain ⟨t, h1, h2, h3, h5⟩ := Slots.tw_at (i := i) s nd (by simpa using e)
    exact ⟨t, by simpa using h1, h2, h3, fun ys a b => .un (h5 ys a b)⟩
  | _, _, _, 0, .val _ _, _, e => by simp at e
  | _, _, _, i + 1, .val r s, nd, e => by
    obtain ⟨t, h1, h2, h3, h5⟩ := Slots.tw_at (i := i) s nd (by simpa using e)
    exact ⟨t, by simpa using h1, h2, h3, fun ys a b => .val (by rw [b]; exact r) (h5 ys a b)⟩
  | _, _, _, 0, .own _ _ _, _, e => by simp at e
  | _, _, _, i + 1, .own h r s, nd, e => by
    obtain ⟨t, h1, h2, h3, h5⟩ := Slots.tw_at (i := i) s (List.nodup_cons.mp nd).2 (by simpa using e)
    exact ⟨t, by simpa using h1, List.mem_cons_of_mem _ h2, h3, fun ys a b => .own ((upd_ne fun e => (List.nodup_cons.mp nd).1 (by rw [e]; exact h2)).trans h) (by rw [b]; exact r) (h5 ys a b)⟩
  | _, _, _, 0, .dic h s, nd, e => by simp at e
  | _, _, _, 0, .dk h s, nd, e => by simp at e
  | _, _, _, 0, .tw ⟨vs, h, r, q⟩ s, nd, e => by
    simp at e
    obtain ⟨rfl, rfl, rfl⟩ := e
    exact ⟨_, rfl, List.mem_cons_self, ⟨vs, h, r, q⟩, fun ys a b => .tw ⟨vs, by rw [b]; exact h, by rw [b]; exact r, a⟩ (s.move (fun l hl => upd_ne fun e => (List.nodup_cons.mp nd).1 (by rw [← e]; exact hl)) (by rw [b]; exact Same.refl _))⟩
  | _, _, _, i + 1, .dic h s, nd, e => by
    obtain ⟨t, h1, h2, h3, h5⟩ := Slots.tw_at (i := i) s (List.nodup_cons.mp nd).2 (by simpa using e)
    exact ⟨t, by simpa using h1, List.mem_cons_of_mem _ h2, h3, fun ys a b => .dic (h.move (upd_ne fun e => (List.nodup_cons.mp nd).1 (by rw [e]; exact h2)) (by rw [b]; exact Same.refl _)) (h5 ys a b)⟩
  | _, _, _, i + 1, .dk h s, nd, e => by
    obtain ⟨t, h1, h2, h3, h5⟩ := Slots.tw_at (i := i) s (List.nodup_cons.mp nd).2 (by simpa using e)
    exact ⟨t, by simpa using h1, List.mem_cons_of_mem _ h2, h3, fun ys a b => .dk (h.move (upd_ne fun e => (List.nodup_cons.mp nd).1 (by rw [e]; exact h2)) (by rw [b]; exact Same.refl _)) (h5 ys a b)⟩
  | _, _, _, i + 1, .tw h s, nd, e => by
    obtain ⟨t, h1, h2, h3, h5⟩ := Slots.tw_at (i := i) s (List.nodup_cons.mp nd).2 (by simpa using e)
    exact ⟨t, by simpa using h1, List.mem_cons_of_mem _ h2, h3, fun ys a b => .tw (h.move (upd_ne fun e => (List.nodup_cons.mp nd).1 (by rw [e]; exact h2)) (by rw [b]; exact Same.refl _)) (h5 ys a b)⟩
section
variable {pr : Program} {wd : World} {K : PySem.W.Frag} {O : List Addr} {H : Hp} {σ : List (Option V)} {ρ : List SD} {L : List Addr}
theorem Slots.setW {t l : Addr} {kvs : List (D × D)} {ds : List D} (hx : TDict pr wd K O H t l kvs ds) (hn : l ∉ L) : ∀ {σ : List (Option V)} {ρ : List SD} {L : List Addr} (i : Nat), i < ρ.length → Slots pr wd K O H σ ρ L →
    ∃ L1 L2 L3, Slots pr wd K O H (σ.set i (some (.ref t))) (ρ.set i (.tw l kvs ds)) (L1 ++ l :: L2) ∧ L = L1 ++ L3 ∧ L2.Sublist L3
  | _, _, _, _, h, .nil => by simp at h
  | _, _, L, 0, _, .un s => ⟨[], L, L, .tw hx s, rfl, List.Sublist.refl _⟩
  | _, _, L, 0, _, .val _ s => ⟨[], L, L, .tw hx s, rfl, List.Sublist.refl _⟩
  | _, _, _ :: L, 0, _, .own _ _ s => ⟨[], L, _, .tw hx s, rfl, List.sublist_cons_self _ _⟩
  | _, _, _ :: L, 0, _, .dic _ s => ⟨[], L, _, .tw hx s, rfl, List.sublist_cons_self _ _⟩
  | _, _, _ :: L, 0, _, .dk _ s => ⟨[], L, _, .tw hx s, rfl, List.sublist_cons_self _ _⟩
  | _, _, _ :: L, 0, _, .tw _ s => ⟨[], L, _, .tw hx s, rfl, List.sublist_cons_self _ _⟩
  | _, _, _, i + 1, h, .un s => by
    obtain ⟨L1, L2, L3, h1, h2⟩ := Slots.setW hx hn i (by simpa using h) s
    exact ⟨L1, L2, L3, .un h1, h2⟩
  | _, _, _, i + 1, h, .val q s => by
    obtain ⟨L1, L2, L3, h1, h2⟩ := Slots.setW hx hn i (by simpa using h) s
    exact ⟨L1, L2, L3, .val q h1, h2⟩
  | _, _, _, i + 1, h, .own q r s => by
    obtain ⟨L1, L2, L3, h1, h2, h3⟩ := Slots.setW hx hn i (by simpa using h) s
    exact ⟨_ :: L1, L2, L3, .own q r h1, by rw [h2]; rfl, h3⟩
  | _, _, _, i + 1, h, .dic q s => by
    obtain ⟨L1, L2, L3, h1, h2, h3⟩ := Slots.setW hx hn i (by simpa using h) s
    exact ⟨_ :: L1, L2, L3, .dic q h1, by rw [h2]; rfl, h3⟩
  | _, _, _, i + 1, h, .dk q s => by
    obtain ⟨L1, L2, L3, h1, h2, h3⟩ := Slots.setW hx hn i (by simpa using h) s
    exact ⟨_ :: L1, L2, L3, .dk q h1, by rw [h2]; rfl, h3⟩
  | _, _, _, i + 1, h, .tw q s => by
    obtain ⟨L1, L2, L3, h1, h2, h3⟩ := Slots.setW hx hn i (by simpa using h) s
    exact ⟨_ :: L1, L2, L3, .tw q h1, by rw [h2]; rfl, h3⟩
end
theorem Env.tw_at {P : Hp} {L : List Addr} {n : Nat} {H : Hp} {σ : List (Option V)} {i : Nat} {l : Addr} {kvs : List (D × D)} {ds : List D} (E : Env c P L n H σ ρ) (h : ρ[i]? = some (.tw l kvs ds)) : ∃ t, σ[i]? = some (some (.ref t)) ∧ l ∈ L ++ c.O ∧ TDict c.pr c.wd c.K (L ++ c.O) H t l kvs ds ∧
    ∀ (o : HO) (lvs : List (D × D)), NDict c.pr c.wd c.K (L ++ c.O) (upd H l o) l lvs → Env c P L n (upd H l o) σ (ρ.set i (.tw l lvs ds)) := by
  obtain ⟨Ls, sl, sb⟩ := E.slots
  have nd := sb.nodup E.nd
  obtain ⟨t, h1, h2, h3, _⟩ := sl.tw_at (lvs := kvs) nd h
  have lL := sb.subset h2
  have hm : l ∈ L ++ c.O := List.mem_append_left _ lL
  have hO : l ∉ c.O := (E.fresh l lL).2
  refine ⟨t, h1, hm, h3, fun o lvs hy => ?_⟩
  have bs : Same (hid c.B c.H0) (hid c.B (upd H l o)) := same_upd_old (E.fresh l lL).1 E.base
  obtain ⟨t', g1, g2, g3, g5⟩ := sl.tw_at (lvs := lvs) nd h
  exact { nd := E.nd, fresh := E.fresh, slots := ⟨Ls, g5 o hy (hid_upd_in hm), sb⟩,
          lst := fun a ha => by
            by_cases e : a = l
            · exact ⟨_, by rw [e, upd_same]⟩
            · rw [upd_ne e]; exact E.lst a ha,
          bag := fun b q hb => (E.bag b q hb).move (fun o h => by rw [upd_ne fun e : b = l => hO (e ▸ (E.bO b q hb).1)]; exact h) fun o h => by rw [upd_ne fun e : q = l => hO (e ▸ (E.bO b q hb).2.1)]; exact h,
          base := bs, pers := by rw [hid_upd_in hm]; exact E.pers, bO := E.bO,
          al := fun o ho => by rw [upd_ne fun e : o = l => hO (e ▸ ho)]; exact E.al o ho }
/-! ### a tuple whose head is a dict of one's own -/
theorem ws_freezeW (i : Nat) {l : Addr} {kvs : List (D × D)} {ds : List D} (h : ρ[i]? = some (.tw l kvs ds)) (k : WS c ts (ρ.set i (.val (.tup (.dcn c.pr c.wd kvs :: ds)))) n Ψ) : WS c ts ρ n Ψ := fun P L σ H Dn E A => by
  obtain ⟨L', E', _⟩ := E.freezeW h
  exact k P L' σ H Dn E' A
theorem wt_lookW (i : Nat) {Φ : Nat → Bool → Prop} {l : Addr} {kvs : List (D × D)} {ds : List D} (h : ρ[i]? = some (.tw l kvs ds)) (k : WT c t (ρ.set i (.val (.tup (.dcn c.pr c.wd kvs :: ds)))) n Φ) : WT c t ρ n Φ := fun P L σ H Q E q => by
  obtain ⟨L', E', sub, _⟩ := E.freezeW h
  exact k P L' σ H Q E' fun b n1 H1 s1 j1 k1 => q b n1 H1 s1 j1 k1
theorem we_lookW (i : Nat) {l : Addr} {kvs : List (D × D)} {ds : List D} (h : ρ[i]? = some (.tw l kvs ds)) (k : WE c te (ρ.set i (.val (.tup (.dcn c.pr c.wd kvs :: ds)))) n fun n1 d => plain d = true ∧ Φ n1 d) : WE c te ρ n Φ := fun P L σ H Q E q => by
  obtain ⟨L', E', sub, hL, lL, xs, hx⟩ := E.freezeW h
  refine k P L' σ H Q E' fun v d n1 H1 s1 j1 r1 ⟨hs, k1⟩ => q v d n1 H1 s1 j1 ?_ k1
  have hB : l ∉ c.B := E.notB lL
  have h1 : H1 l = some (.ext (DictBare c.pr c.wd xs l)) := (hid_some.mp (s1 l _ (hid_some.mpr ⟨hB, hx⟩))).2
  exact rp_back (noSeq_ext h1) hL r1 hs
/-- an own dict looked at; what comes out hangs on no dict -/
theorem we_lookKp (i : Nat) {kvs : List (L2.Key × D)} (h : ρ[i]? = some (.dk kvs)) (k : WE c te (ρ.set i (.val (.dct kvs))) n fun n1 d => plain d = true ∧ Φ n1 d) : WE c te ρ n Φ := fun P L σ H Q E q => by
  obtain ⟨L', E', sub, l, xs, hL, lL, hx⟩ := E.freezeK2 h
  refine k P L' σ H Q E' fun v d n1 H1 s1 j1 r1 ⟨hs, k1⟩ => q v d n1 H1 s1 j1 ?_ k1
  have hB : l ∉ c.B := E.notB lL
  have h1 : H1 l = some (.dK xs) := (hid_some.mp (s1 l _ (hid_some.mpr ⟨hB, hx⟩))).2
  exact rp_back (noSeq_dK h1) hL r1 hs
/-- world[0][k] = e -/
theorem ws_wput {i : Nat} {l : Addr} {kvs : List (D × D)} {ds : List D} {tk : TE} (h0 : ρ[i]? = some (.tw l kvs ds)) (hz : kvs.length < 16777216) (h : WE c te ρ n fun n1 vd => WE c tk ρ n1 fun n2 kd => keyD kd = true ∧ Ψ.nx n2 (ρ.set i (.tw l (putD kvs kd vd) ds))) : WS c (tAsg te (gSub (tOp (rIx c.K) (tVar i) (tC (.int 0))) tk (rSetN c.pr c.wd c.K))) ρ n Ψ := fun P L σ H Dn E A => by
  refine h P L σ H _ E fun y vd n1 H1 s1 j1 r1 h1 => ?_
  have E1 := E.step s1 j1
  obtain ⟨t, g1, gL, ⟨vs, g2, _, _⟩, _⟩ := E1.tw_at h0
  refine ⟨.ref t, g1, .inr (.inl ⟨t, _, 0, .ref l, rfl, rfl, same_t same_hid g2, atI_nat (xs := V.ref l :: vs) (j := 0) rfl, ?_⟩)⟩
  refine h1 P L σ H1 _ E1 fun z kd n2 H2 s2 j2 r2 ⟨hk, k⟩ => ?_
  have E2 := E1.step s2 j2
  obtain ⟨t', g1', gL', ⟨vs', g2', g3', g4'⟩, up⟩ := E2.tw_at h0
  refine ⟨L ++ c.O, l, kvs, kd, vd, rfl, gL, g4', r2, hk, r1.mono (E1.sameLO s2), by rw [sizeLine_eq]; exact hz, fun φ hN => ?_⟩
  exact A.nx L n2 _ σ _ (up _ _ hN) k
theorem Env.newAny {P : Hp} {L : List Addr} {n : Nat} {H : Hp} {σ : List (Option V)} {D : Addr} {o : HO} (E : Env c P L n H σ ρ) (hD : H D = none) : Env c P (D :: L) n (upd H D o) σ ρ := by
  have w := E.new hD
  obtain ⟨Ls, sl, sb⟩ := E.slots
  have e0 : hid ((D :: L) ++ c.O) (upd H D o) = hid (L ++ c.O) H := hid_new_in hD
  exact { nd := List.nodup_cons.mpr ⟨w.2.2, E.nd⟩,
          fresh := fun l hl => by
            rcases List.mem_cons.mp hl with e | e
            · subst e; exact ⟨w.1, w.2.1⟩
            · exact E.fresh l e,
          slots := ⟨Ls, sl.move (fun l hl => upd_ne fun e => w.2.2 (e ▸ sb.subset hl)) (by rw [e0]; exact Same.refl _), sb.cons _⟩,
          lst := fun l hl => by
            rcases List.mem_cons.mp hl with e | e
            · subst e; exact ⟨_, upd_same⟩
            · rw [upd_ne fun q : l = D => w.2.2 (q ▸ e)]; exact E.lst l e,
          bag := (E.newT hD).2.1,
          base := E.base.trans (E.newT hD).1,
          pers := by rw [e0]; exact E.pers,
          bO := E.bO,
          al := fun o ho => by rw [upd_ne fun e : o = D => w.2.1 (e ▸ ho)]; exact E.al o ho }
/-- ({}, ..) -/
theorem ws_wnew {i : Nat} (hi : i < ρ.length) (h : WA c as ρ n fun n1 ds => ds.length < 16777216 ∧ ∀ l, Ψ.nx n1 (ρ.set i (.tw l [] ds))) : WS c (tAsg (tTup (tCons (tDNewN c.pr c.wd) as)) (gName i)) ρ n Ψ := fun P L σ H Dn E A => by
  intro p hp hs
  have E1 := E.newAny (o := .ext (DictBare c.pr c.wd [] p)) hp
  have w := E.new hp
  obtain ⟨Ls, sl0, sb⟩ := E.slots
  have nLs : p ∉ Ls := fun q => w.2.2 (sb.subset q)
  refine h P (p :: L) σ _ _ E1 fun vs ds n2 H2 s2 j2 r2 ⟨hz, k⟩ => ?_
  refine ⟨by show vs.length + 1 ≤ _; rw [r2.length, sizeLine_eq]; omega, fun t ht => ?_⟩
  have E2 := E1.step s2 j2
  have hp2 : H2 p = some (.ext (DictBare c.pr c.wd [] p)) := (hid_some.mp (s2 p _ (hid_some.mpr ⟨E1.notB List.mem_cons_self, upd_same⟩))).2
  have T := E2.newT (o := .tup (.ref p :: vs)) ht
  have E3 := E2.step T.1 T.2.1
  obtain ⟨Ls3, sl3, sb3⟩ := E3.slots
  have eL := sl3.inj sl0
  subst eL
  have npt : p ≠ t := fun e => by rw [← e, hp2] at ht; cases ht
  have td : TDict c.pr c.wd c.K ((p :: L) ++ c.O) (upd H2 t (.tup (.ref p :: vs))) t p [] ds := by
    refine ⟨vs, .inl (.inl ?_), r2.mono (rp_upd (K := c.K) ht), [], by rw [upd_ne npt]; exact hp2, hs, .nil⟩
    exact hid_at T.2.2
  obtain ⟨L1, L2, L3, sl4, eL, sub⟩ := Slots.setW td nLs i hi sl3
  have mv : ∃ Lp : List Addr, (L1 ++ p :: L2).Sublist Lp ∧ Lp.Perm (p :: L) := by
    rw [eL] at sb
    have h5 : (L1 ++ L2).Sublist L := (List.Sublist.append_left sub L1).trans sb
    exact ins_sub h5
  obtain ⟨Lp, sLp, pLp⟩ := mv
  have mem : ∀ a, a ∈ Lp ++ c.O ↔ a ∈ (p :: L) ++ c.O := fun a => by
    rw [List.mem_append, List.mem_append, pLp.mem_iff]
  refine A.nx Lp n2 _ _ _ ?_ (k p)
  exact { nd := pLp.nodup_iff.mpr E3.nd,
          fresh := fun l hl => E3.fresh l (pLp.mem_iff.mp hl),
          slots := ⟨_, sl4.move (fun _ _ => rfl) (same_hid_sub fun a ha => (mem a).mp ha), sLp⟩,
          lst := fun l hl => E3.lst l (pLp.mem_iff.mp hl),
          bag := E3.bag,
          base := E3.base,
          pers := E3.pers.trans (same_hid_sub fun a ha => (mem a).mp ha),
          bO := E3.bO, al := E3.al }
/-! ### dicts whose keys are tuples as data -/
theorem r2_ixN {pr : Program} {wd : World} {K : PySem.W.Frag} {Φ : D → Prop} {kvs : List (D × D)} {kd f : D} (hk : keyD kd = true) (hl : lookD kvs kd = some f) (k : Φ f) : R2D K (rIxR pr wd K) (.dcn pr wd kvs) kd Φ := fun O H x y Q rx ry _ q => by
  obtain ⟨l, rfl, nd⟩ := nd_of_rp rx
  exact ⟨O, l, kvs, kd, f, rfl, nd, ry, hk, hl, fun u ru => q u f H (Same.refl _) ru k⟩
def rInN (pr : Program) (wd : World) (K : PySem.W.Frag) : R2 := fun x y H Q => ∃ (O : List Addr) (l : Addr) (kvs : List (D × D)) (kd : D), y = .ref l ∧ NDictR pr wd K O H l kvs ∧ Rp K (hid O H) x kd ∧ keyD kd = true ∧ Q (.bl (lookD kvs kd).isSome) H
theorem r2_inN {pr : Program} {wd : World} {K : PySem.W.Frag} {Φ : D → Prop} {kvs : List (D × D)} {kd : D} (hk : keyD kd = true) (k : Φ (.bl (lookD kvs kd).isSome)) : R2D K (rInN pr wd K) kd (.dcn pr wd kvs) Φ := fun O H x y Q rx ry _ q => by
  obtain ⟨l, rfl, nd⟩ := nd_of_rp ry
  exact ⟨O, l, kvs, kd, rfl, nd, rx, hk, q _ _ H (Same.refl _) (.bl _) k⟩
theorem x_inN {X : Cx} (pr : Program) (wd : World) (K : PySem.W.Frag) (hu : X.A.units + 65 < cLine) (hp : X.prog = pr := by rfl) (hw : X.w = wd := by rfl) (hK : X.K = K := by rfl) : OpR X (compareOp .In) (rInN pr wd K) := by
  subst hp; subst hw; subst hK
  intro pins s σ H x y v u Q I rx ry h
  obtain ⟨O, l, kvs, kd, rfl, ⟨xs, n1, n2, n3⟩, rk, hk, q⟩ := h
  cases ry
  obtain ⟨a, ea, eb, is⟩ := key_is I rk rx hk
  subst eb
  have dd := nd_ofR I n1 n3
  refine wpAny_in_heap (by show X.A.in1.units + 8 < cLine; have : X.A.in1.units = X.A.units + 1 := rfl; omega) is n2 dd ?_
  have e : (lookD kvs kd).isSome = (atKey xs (nk kd)).isSome := by
    rcases ent_look (kd := kd) n3 with ⟨e1, e2⟩ | ⟨v', a', u', w, e1, e2, _⟩
    · rw [e1, e2]; rfl
    · rw [e1, e2]; rfl
  rw [← e]
  exact ⟨.bl _, H, I.tok _, rfl, q⟩
/-! ### dicts of ints and texts -/
theorem we_dnewK (k : Φ n (.dct [])) : WE c tDNewK ρ n Φ := fun P L σ H Q E q => by
  intro p hp
  have z := E.newT (o := .dK []) hp
  exact q _ _ n _ z.1 z.2.1 (.dct (.inl (hid_at z.2.2)) .nil) k
theorem we_kcopy {i : Nat} {kvs : List (L2.Key × D)} (h0 : ρ[i]? = some (.dk kvs)) (k : Φ n (.dct kvs)) : WE c (tCB (rDictD c.K) (tCons (tVar i) tNil)) ρ n Φ := fun P L σ H Q E q => by
  obtain ⟨l, g1, _, ⟨xs, g2, g3⟩, _⟩ := E.dk_at h0
  refine ⟨.ref l, g1, l, xs, rfl, .inl g2, fun p hp => ?_⟩
  have z := E.newT (o := .dK xs) hp
  exact q _ _ n _ z.1 z.2.1 (.dct (.inl (hid_at z.2.2)) (g3.mono (rp_upd (K := c.K) hp))) k
theorem rc_dictK {K : PySem.W.Frag} {Φ : D → Prop} {kvs : List (L2.Key × D)} (k : Φ (.dct kvs)) : RCD K (rDictD K) [.dct kvs] Φ := rc_dict k
/-- two dicts of the same -/
def rEqK (K : PySem.W.Frag) (neg : Bool) : R2 := fun x y H Q => ∃ (O : List Addr) (kvs lvs : List (L2.Key × D)), Rp K (hid O H) x (.dct kvs) ∧ Rp K (hid O H) y (.dct lvs) ∧ kvs.length = lvs.length ∧ (∀ kv ∈ kvs, ∃ d, lookK lvs kv.1 = some d ∧ fit kv.2 = true ∧ fit d = true ∧ eqD kv.2 d = true) ∧ Q (.bl (!neg)) H
theorem r2_eqK {K : PySem.W.Frag} {neg : Bool} {Φ : D → Prop} {kvs lvs : List (L2.Key × D)} (hl : kvs.length = lvs.length) (h : ∀ kv ∈ kvs, ∃ d, lookK lvs kv.1 = some d ∧ fit kv.2 = true ∧ fit d = true ∧ eqD kv.2 d = true) (k : Φ (.bl (!neg))) : R2D K (rEqK K neg) (.dct kvs) (.dct lvs) Φ := fun O H x y Q rx ry _ q =>
  ⟨O, kvs, lvs, rx, ry, hl, h, q _ _ H (Same.refl _) (.bl _) k⟩
theorem hitsD {X : Cx} {pins : List (Addr × Obj)} {σ : L2.St} {H : Hp} {s : Shared} (I : Inv X pins σ H s) {A : Around} (hu : A.in1.units + 64 < cLine) {O : List Addr} {ls : List (L2.Key × V)} {lvs : List (L2.Key × D)} (rl : RpKs X.K (hid O H) ls lvs) {vb : List (L2.Key × Value)} (rb : KV ls vb) :
    ∀ {ks : List (L2.Key × V)} {kvs : List (L2.Key × D)}, RpKs X.K (hid O H) ks kvs → ∀ {va : List (L2.Key × Value)}, KV ks va → (∀ kv ∈ kvs, ∃ d, lookK lvs kv.1 = some d ∧ fit kv.2 = true ∧ fit d = true ∧ eqD kv.2 d = true) → PySem.W.KeqHits A.in1 s vb va true
  | _, _, .nil, _, ra, _ => by cases ra; exact .nil
  | _, _, .cons (x := x) h r, _, ra, hp => by
    cases ra with
    | @cons _ q _ qs g t =>
      obtain ⟨g1, g2⟩ := g
      obtain ⟨d, e1, e2, e3, e4⟩ := hp _ List.mem_cons_self
      obtain ⟨u, hu1, ru⟩ := rl.look.1 d e1
      have rr : RelO (some u) (valueAt vb x) := by rw [← hu1]; exact rb.val x
      obtain ⟨y, hy, ry⟩ := rr.some_of
      obtain ⟨key, v⟩ := q
      have g1' : x = key := g1
      subst g1'
      obtain ⟨as, r1⟩ := Dp.reads I _ _ v (Dp.mono same_hid (h.dp (fit_p e2))) g2
      obtain ⟨bs, r2⟩ := Dp.reads I _ _ y (Dp.mono same_hid (ru.dp (fit_p e3))) ry
      have z := PySem.W.keq_at (A := A) r1 r2 (fit_s e2) (fit_s e3) hu
      rw [show PyData.eqv (dpy _) (dpy d) = true from e4] at z
      exact .hit (b := true) hy z (hitsD I hu rl rb r t fun kv hk => hp kv (List.mem_cons_of_mem _ hk))
theorem x_neK {X : Cx} (K : PySem.W.Frag) (hu : X.A.units + 65 < cLine) (hK : X.K = K := by rfl) : OpR X (compareOp .NotEq) (rEqK K true) := by
  subst hK
  intro pins s σ H x y v u Q I rx ry h
  obtain ⟨O, kvs, lvs, hx, hy, hl, hh, q⟩ := h
  cases hx with
  | @dct a ks _ ha ra =>
    cases hy with
    | @dct b ls _ hb rb =>
      cases rx
      cases ry
      obtain ⟨_, ya, va, va', da⟩ := (same_rd same_hid ha).ok I.hok
      obtain ⟨_, yb, vb, vb', db⟩ := (same_rd same_hid hb).ok I.hok
      refine PySem.W.keq_ne (knd := mixKind X.prog X.w) (r := true) ya yb da db (by omega) (fun _ => hitsD (A := X.A) I (by show X.A.units + 1 + 64 < cLine; omega) rb vb' ra va' hh) ?_
      have e : va.length = vb.length := by rw [← va'.length, ← vb'.length, ra.length, rb.length]; exact hl
      rw [show (va.length == vb.length && true) = true from by rw [e]; simp]
      exact ⟨.bl false, H, I, rfl, q⟩
/-! ### own lists -/
theorem rp_scals {K : PySem.W.Frag} {H H' : Hp} : ∀ {xs : List V} {es : List D}, RpAll K H xs es → (∀ e ∈ es, scalar e = true) → RpAll K H' xs es
  | _, _, .nil, _ => .nil
  | _, _, .cons h r, hs => .cons (h.scal (hs _ List.mem_cons_self)) (rp_scals r fun e he => hs e (List.mem_cons_of_mem _ he))
/-- a new list of scalars, made while an own list is looked at -/
theorem wf_look (i : Nat) {ds : List D} {Φ : Nat → List D → Prop} (h : ρ[i]? = some (.own ds)) (k : WF c te (ρ.set i (.val (.lst ds))) n fun n1 es => (∀ e ∈ es, scalar e = true) ∧ Φ n1 es) : WF c te ρ n Φ := fun P L σ H Q E q => by
  obtain ⟨L', E', sub⟩ := E.freeze h
  refine k P L' σ H Q E' fun p xs es n1 H1 s1 hp hp1 r1 j1 ⟨hs, k1⟩ => q p xs es n1 H1 s1 hp hp1 ?_ j1 k1
  exact rp_scals r1 hs
/-- x.append(y.pop(e)) -/
theorem ws_appendPop {i j : Nat} {ds es : List D} (h0 : ρ[i]? = some (.own ds)) (h1 : ρ[j]? = some (.own es)) (hij : i ≠ j) (h : WE c te ρ n fun n1 d => ∃ (k : Nat) (y : D), d = .int (k : Int) ∧ es[k]? = some y ∧ k < 2 ^ 62 ∧ ds.length < sizeLine ∧ Ψ.nx n1 ((ρ.set j (.own (es.eraseIdx k))).set i (.own (ds ++ [y])))) :
    WS c (tDrop (tBM c.K "list" rAppend (tVar i) (tCons (tBM c.K "list" rPopAt (tVar j) (tCons te tNil)) tNil))) ρ n Ψ := fun P L σ H Dn E A => by
  obtain ⟨l, xs, a1, a2, a3, a4⟩ := E.own_at h0
  obtain ⟨m, ys, b1, b2, b3, b4⟩ := E.own_at h1
  refine ⟨.ref l, a1, .inl ⟨rfl, xs, .inl (.inl a2)⟩, ?_⟩
  refine ⟨.ref m, b1, .inl ⟨rfl, ys, .inl (.inl b2)⟩, ?_⟩
  refine h P L σ H _ E fun v d n1 H1 s1 j1 r1 ⟨k, y, e, hk, hk2, hz, kk⟩ => ?_
  subst e
  cases r1
  have E1 := E.step s1 j1
  obtain ⟨m', ys', c1, c2, c3, c4⟩ := E1.own_at h1
  rw [b1] at c1
  cases c1
  obtain ⟨u, hu, ru⟩ := c3.get' hk
  have hlt : k < ys'.length := (List.getElem?_eq_some_iff.mp hu).1
  refine ⟨m, ys', (k : Int), k, u, rfl, rfl, c2, by omega, by omega, ?_, hu, ?_⟩
  · exact (ixN_seq (n := ys'.length) (i := (k : Int)) (j := k) (by unfold ixN; rw [if_pos (by omega), if_pos (by omega)]; simp)).1
  have E2 := (c4 (ys'.eraseIdx k) (es.eraseIdx k) (c3.eraseIdx k)).1
  have Ep := (E1.pers'.own_at h1)
  obtain ⟨m'', ys'', f1, f2, f3, f4⟩ := Ep
  rw [b1] at f1
  cases f1
  have E2p := (f4 (ys'.eraseIdx k) (es.eraseIdx k) (c3.eraseIdx k)).1.pers
  have h0' : (ρ.set j (.own (es.eraseIdx k)))[i]? = some (.own ds) := by rw [List.getElem?_set_ne (Ne.symm hij)]; exact h0
  obtain ⟨l', xs', g1, g2, g3, g4⟩ := E2.own_at h0'
  rw [a1] at g1
  cases g1
  refine ⟨l, xs', u, rfl, rfl, g2, by rw [g3.length]; exact hz, ?_⟩
  exact A.nx L n1 _ σ _ (g4 (xs' ++ [u]) (ds ++ [y]) (g3.append (.cons (ru.mono E2p) .nil))).1 kk
/-- x[i] = e, x one's own -/
theorem ws_lset {i : Nat} {ds : List D} {tk : TE} (h0 : ρ[i]? = some (.own ds)) (h : WE c te ρ n fun n1 vd => WE c tk ρ n1 fun n2 kd => ∃ k : Nat, kd = .int (k : Int) ∧ k < ds.length ∧ Ψ.nx n2 (ρ.set i (.own (ds.set k vd)))) : WS c (tAsg te (gSub (tVar i) tk rSetL)) ρ n Ψ := fun P L σ H Dn E A => by
  refine h P L σ H _ E fun y vd n1 H1 s1 j1 r1 h1 => ?_
  have E1 := E.step s1 j1
  obtain ⟨l, xs, a1, a2, a3, a4⟩ := E1.own_at h0
  refine ⟨.ref l, a1, ?_⟩
  refine h1 P L σ H1 _ E1 fun z kd n2 H2 s2 j2 r2 ⟨k, e, hk, kk⟩ => ?_
  subst e
  cases r2
  have E2 := E1.step s2 j2
  obtain ⟨l', xs', g1, g2, g3, g4⟩ := E2.own_at h0
  rw [a1] at g1
  cases g1
  refine ⟨l, xs', (k : Int), k, rfl, rfl, g2, ?_, ?_⟩
  · rw [g3.length]
    unfold ixN
    rw [if_pos (by omega), if_pos (by omega)]; simp
  · exact A.nx L n2 _ σ _ (g4 _ _ (g3.set (r1.mono (E1.sameLO s2)) k)).1 kk
end
end L3
/-! L3u: sorted(d, reverse=True) of a dict with int keys. -/
namespace L3
open PySem L2 PySem.W PyProof.Rows PySem.Calls PyProof.V
section
variable {prog : Program} {w : World} {A : Around} {E : Value → Shared → Prop} {s : Shared}
theorem sorted_dictR {ns : List Int} {b : Bool} {d : Addr} {es : Array DictEntry} {ep : Nat} {Q : Value → Shared → Prop} (hh : A.handled = none) (lo : (d == sysModules) = false) (hD : s.heap.DictRaw d es ep)
    (hi : IntsAre (es.toList.map (·.key)) ns) (hn : es.size ≤ sizeLine)
    (h : ∀ (h1 h2 : Heap) (tk : Nat) (out : Array Value) (c : Nat) (ns' : List Int), (∀ b o, s.heap.get? b = some o → h1.get? b = some o) → (∀ b o, h1.get? b = some o → h2.get? b = some o) → h2.get? h1.objs.size = some { cls := .type "list", data := .seq out c } → IntsAre out.toList ns' → ns'.Perm ns → Q (.ref h1.objs.size) { s with heap := h2, toks := tk }) :
    wpAny (model prog w) A (call (.builtin "sorted") [.ref d] [(Str.ofString "reverse", .bool b)]) Q E s := by
  refine call_function_entry_kw kind_sorted plain_sorted entry_sorted (PyProof.Rows.args_sorted_rev _ _) ?_
  unfold Builtin.«sorted»
  refine wpAny_bind (m := checkCount "sorted" 1 1 _) (wpAny_pure ?_)
  refine wpAny_bind (kdu_collect (A := A.in1) (KdlSrc.rawDict lo) hh hD hn fun h' tk acc hkp hacc => ?_)
  have hl : acc.toList = es.toList.map (·.key) := by
    apply List.ext_getElem?
    intro j
    by_cases hj : j < acc.size
    · obtain ⟨hi, hv⟩ := hacc.2 j acc[j] (by simp [hj])
      rw [Array.getElem?_toList, Array.getElem?_eq_getElem hj, List.getElem?_map, Array.getElem?_toList, Array.getElem?_eq_getElem hi, hv]; rfl
    · have hs : acc.size = es.size := hacc.1
      rw [Array.getElem?_toList, Array.getElem?_eq_none (by omega), List.getElem?_map, Array.getElem?_toList, Array.getElem?_eq_none (by omega)]; rfl
  have hz : acc.toList.length ≤ sizeLine := by rw [Array.length_toList, hacc.1]; exact hn
  refine wpAny_bind (wpAny_newList ?_ hz)
  rw [hl] at hz ⊢
  generalize hvs : es.toList.map (·.key) = vs at hi hz ⊢
  have ho : (h'.push { cls := .type "list", data := .seq vs.toArray }).get? h'.objs.size = some (seqObj "list" vs.toArray 0) := Heap.get?_push_size _ rfl
  refine wpAny_bind (wpAny_holding (wpAny_call_entry_kw slot_list_sort ⟨_, ho, rfl⟩ entry_list_sort ?_ (PyProof.Rows.args_list_sort_rev _ _)))
  refine SrtR.list_sort_ordR (s := { s with heap := h'.push { cls := .type "list", data := .seq vs.toArray }, toks := tk }) SrtO.swo_int ho hz (fun h2 => SrtO.ints_sortable hi h2) fun out h1 h2 => ?_
  obtain ⟨ns', k1, k2, _⟩ := SrtR.ints_outR hi h1 h2
  obtain ⟨c, hc⟩ := sortedHeap_at (out := (if b = true then out.toArray.reverse else out.toArray)) ho
  refine ⟨_, rfl, ?_⟩
  refine wpAny_pure ⟨_, rfl, h h' _ tk _ c ns' hkp ?_ hc k1 k2⟩
  intro b o q
  rw [sortedHeap_old (Nat.ne_of_lt (Heap.lt_size q)) (Nat.lt_of_lt_of_le (Heap.lt_size q) (by rw [Heap.size_push]; exact Nat.le_succ _))]
  exact Heap.get?_push_of_some _ q
end
def rSortKR (K : PySem.W.Frag) : List V → List V → Hp → VK → Prop := fun vs zs H Q => ∃ (O : List Addr) (v : V) (kvs : List (L2.Key × D)) (ns : List Int), vs = [v] ∧ zs = [.bl true] ∧ Rp K (hid O H) v (.dct kvs) ∧ kvs.map (·.1) = ns.map Sum.inl ∧
  ∀ (ns' : List Int) (p : Addr), ns'.Perm ns → H p = none → Q (.ref p) (upd H p (.lst (ns'.map V.int)))
theorem x_sortKR {X : Cx} (K : PySem.W.Frag) (hcalm : X.calm = true := by rfl) (hK : X.K = K := by rfl) : CallRK X (.builtin "sorted") [Str.ofString "reverse"] (rSortKR K) := by
  subst hK
  intro pins s σ H vs zs us ws Q I r rz h
  obtain ⟨O, v, kvs, ns, rfl, rfl, hx, hk, q⟩ := h
  cases hx with
  | @dct a xs _ hs rk =>
    obtain rfl := Vals.ref1 r
    obtain ⟨w1, rfl, e1⟩ := L2.vals1 rz
    obtain rfl : w1 = Value.bool true := e1
    obtain ⟨z, ya, va, va', da⟩ := (same_rd same_hid hs).ok I.hok
    obtain ⟨oa, es, ep, hoa, hcl, hda, hka, hpa, _⟩ := da
    have hlen : va.length = es.size := by rw [← hpa.length]; exact Array.length_toList
    have hll : xs.length = va.length := va'.length
    have hn : es.size ≤ sizeLine := by rw [← hlen, ← hll]; exact z
    have hi : IntsAre (es.toList.map (·.key)) ns := by
      have key : ∀ {es : List DictEntry} {va : List (L2.Key × Value)}, Pairs (mixKind X.prog X.w) es va → ∀ {xs : List (L2.Key × V)} {kvs : List (L2.Key × D)} {ns : List Int}, KV xs va → RpKs X.K (hid O H) xs kvs → kvs.map (·.1) = ns.map Sum.inl → IntsAre (es.map (·.key)) ns := by
        intro es va hp
        induction hp with
        | nil =>
          intro xs kvs ns h1 h2 h3
          cases h1
          cases h2
          cases ns with
          | nil => exact .nil
          | cons _ _ => cases h3
        | @cons e kv es va g1 g2 _ ih =>
          intro xs kvs ns h1 h2 h3
          cases h1 with
          | cons p1 p2 =>
            cases h2 with
            | cons r1 r2 =>
              cases ns with
              | nil => cases h3
              | cons i ns =>
                have h3' := List.cons.inj h3
                have e0 : kv.1 = Sum.inl i := p1.1.symm.trans h3'.1
                have g1' : keyIs kv.1 e.key = true := g1
                rw [e0] at g1'
                obtain ⟨j, t, e1, e2⟩ | ⟨x, t, e1, e2⟩ := keyIs_shape g1'
                · cases e1
                  show IntsAre (e.key :: es.map (·.key)) _
                  rw [e2]
                  exact .cons _ _ (ih p2 r2 h3'.2)
                · cases e1
      exact key hpa va' rk hk
    refine sorted_dictR (s := s) (I.ok.hd hcalm) ya ⟨oa, hoa, hcl, hda⟩ hi hn fun h1 h2 tk out c ns' k1 k2 hc io hp => ?_
    have I1 : Inv X pins σ H { s with heap := h1 } := I.kept (t' := s.toks) k1
    have hlo : (ns'.map V.int).length ≤ sizeLine := by
      rw [List.length_map, hp.length_eq]
      have : ns.length = kvs.length := by
        have := congrArg List.length hk
        rw [List.length_map, List.length_map] at this
        exact this.symm
      rw [this, ← rk.length]; exact z
    have e0 : out.toList.toArray = out := Array.toArray_toList
    exact ⟨.ref _, upd H h1.objs.size (.lst (ns'.map V.int)), I1.laid (t' := tk) k2 (Nat.le_refl _) ⟨hlo, out.toList, c, L2.vals_of_ints io, by rw [e0]; exact hc⟩, rfl, q ns' _ hp (I1.hok.fresh (Nat.le_refl _))⟩
section
variable {c : Ctx} {ρ : List SD} {n : Nat} {ta tk : TA} {Φ : Nat → D → Prop}
/-- a built-in called with keywords -/
theorem we_ckw {r : List V → List V → Hp → VK → Prop} (h : WA c ta ρ n fun n1 ds => WA c tk ρ n1 fun n2 es => ∀ (O : List Addr) (H : Hp) (vs zs : List V) (Q : VK), RpAll c.K (hid O H) vs ds → RpAll c.K (hid O H) zs es → (∀ p, H p = none → p ∉ O) → (∀ v f H', Same H H' → Rp c.K (hid O H') v f → Φ n2 f → Q v H') → r vs zs H Q) : WE c (tCKw r ta tk) ρ n Φ := fun P L σ H Q E q => by
  refine h P L σ H _ E fun vs ds n1 H1 s1 j1 r1 h1 => ?_
  have E1 := E.step s1 j1
  refine h1 P L σ H1 _ E1 fun zs es n2 H2 s2 j2 r2 h2 => ?_
  have E2 := E1.step s2 j2
  refine h2 (L ++ c.O) H2 vs zs Q (r1.mono (E1.sameLO s2)) r2 E2.noO fun v f H' s r k => ?_
  have z := E2.same s
  exact q v f n2 H' ((s1.trans s2).trans z.1) z.2 r k
theorem we_sortKR (h : WA c ta ρ n fun n1 ds => ∃ (kvs : List (L2.Key × D)) (ns : List Int), ds = [.dct kvs] ∧ kvs.map (·.1) = ns.map Sum.inl ∧ WA c tk ρ n1 fun n2 es => es = [.bl true] ∧ ∀ ns' : List Int, ns'.Perm ns → Φ n2 (.lst (ns'.map .int))) : WE c (tCKw (rSortKR c.K) ta tk) ρ n Φ := we_ckw fun P L σ H Q E q => h P L σ H Q E fun vs ds n1 H1 s1 j1 r1 ⟨kvs, ns, e, hk, h2⟩ => by
  subst e
  refine q vs _ n1 H1 s1 j1 r1 fun P L σ H Q E q => h2 P L σ H Q E fun zs es n2 H2 s2 j2 r2 ⟨e, kk⟩ => ?_
  subst e
  refine q zs _ n2 H2 s2 j2 r2 fun O H xs ys Q rx ry no qq => ?_
  obtain ⟨v, rfl, rv⟩ := rx.one
  obtain ⟨u, rfl, ru⟩ := ry.one
  cases ru
  exact ⟨O, v, kvs, ns, rfl, rfl, rv, hk, fun ns' p hp hpn => qq _ _ _ (same_upd_new hpn) (.lst (.inl (hid_at (no p hpn))) (RpAll.ofInts ns')) (kk ns' hp)⟩
end
end L3
/-! L3v: an own list looked at; what comes out has no lists. -/
namespace L3
open PySem L2
mutual
def noLst : D → Bool
  | .lst _ => false
  | .tup xs => noLstAll xs
  | .obj _ _ => false
  | .dct _ => false
  | .dcn _ _ _ => false
  | .adr _ => false
  | .ty _ => false
  | _ => true
def noLstAll : List D → Bool
  | [] => true
  | x :: xs => noLst x && noLstAll xs
end
def NoTup (H : Hp) (l : Addr) : Prop := ∀ xs, ¬ Rd H l (.tup xs)
theorem noTup_lst {H : Hp} {l : Addr} {ys : List V} (h : H l = some (.lst ys)) : NoTup H l := fun xs => by
  rintro (q | ⟨o, q⟩) <;> (rw [h] at q; cases q)
mutual
theorem rt_drop {K : PySem.W.Frag} {O : List Addr} {H : Hp} {l : Addr} (hl : NoTup H l) : ∀ (d : D) (v : V), Rp K (hid O H) v d → noLst d = true → Rp K (hid (l :: O) H) v d
  | .non, _, h, _ => by cases h; exact .non
  | .bl b, _, h, _ => by cases h; exact .bl b
  | .int i, _, h, _ => by cases h; exact .int i
  | .str x, _, h, _ => by cases h; exact .str x
  | .lst xs, _, h, p => by cases p
  | .tup xs, _, h, p => by
    cases h with
    | tup h r =>
      refine .tup ?_ (rt_drops hl xs _ r p)
      rcases h with h | h
      · exact .inl (rd_drop (hl _) h)
      · exact .inr h
  | .obj _ _, _, _, p => by cases p
  | .adr _, _, _, p => by cases p
  | .ty _, _, _, p => by cases p
  | .dct _, _, _, p => by cases p
  | .dcn _ _ _, _, _, p => by cases p
theorem rt_drops {K : PySem.W.Frag} {O : List Addr} {H : Hp} {l : Addr} (hl : NoTup H l) : ∀ (ds : List D) (vs : List V), RpAll K (hid O H) vs ds → noLstAll ds = true → RpAll K (hid (l :: O) H) vs ds
  | [], _, h, _ => by cases h; exact .nil
  | x :: xs, _, h, p => by
    cases h with
    | cons h r =>
      have p' : (noLst x && noLstAll xs) = true := p
      rw [Bool.and_eq_true] at p'
      exact .cons (rt_drop hl x _ h p'.1) (rt_drops hl xs _ r p'.2)
end
section
variable {c : Ctx} {ρ : List SD} {n : Nat} {te : TE} {Φ : Nat → D → Prop}
theorem Env.freeze2 {P : Hp} {L : List Addr} {n : Nat} {H : Hp} {σ : List (Option V)} {i : Nat} {ds : List D} (E : Env c P L n H σ ρ) (h : ρ[i]? = some (.own ds)) : ∃ L', Env c P L' n H σ (ρ.set i (.val (.lst ds))) ∧ L'.Sublist L ∧ ∃ l xs, (∀ a ∈ L, a = l ∨ a ∈ L') ∧ l ∈ L ∧ H l = some (.lst xs) := by
  obtain ⟨Ls, sl, sb⟩ := E.slots
  obtain ⟨L1, l, L2, xs, h1, h2, h3, h4⟩ := sl.freeze h
  have lL : l ∈ L := sb.subset (by rw [h1]; simp)
  have sub : (L.erase l).Sublist L := List.erase_sublist
  have nl : l ∉ L.erase l := E.nd.not_mem_erase
  have sb2 : (L1 ++ L2).Sublist (L.erase l) := by
    have nd := sb.nodup E.nd
    rw [h1] at nd
    have n1 : l ∉ L1 := fun q => by
      have := (List.nodup_append.mp nd).2.2 l q l List.mem_cons_self
      exact this rfl
    have q : (Ls.erase l).Sublist (L.erase l) := sb.erase l
    rw [h1, List.erase_append_right _ n1, List.erase_cons_head] at q
    exact q
  have nO : l ∉ (L.erase l) ++ c.O := fun q => by
    rcases List.mem_append.mp q with q | q
    · exact nl q
    · exact (E.fresh l lL).2 q
  have se : Same (hid (L ++ c.O) H) (hid ((L.erase l) ++ c.O) H) := same_hid_sub fun a ha => by
    rcases List.mem_append.mp ha with q | q
    · exact List.mem_append_left _ (sub.subset q)
    · exact List.mem_append_right _ q
  exact ⟨L.erase l, { nd := sub.nodup E.nd, fresh := fun l hl => E.fresh l (sub.subset hl), slots := ⟨_, h4 _ se nO, sb2⟩, lst := fun l hl => E.lst l (sub.subset hl), base := E.base, pers := E.pers.trans se, bO := E.bO, al := E.al, bag := E.bag }, sub, l, xs, fun a ha => by by_cases q : a = l; exact .inl q; exact .inr ((List.mem_erase_of_ne q).mpr ha), lL, h2⟩
theorem we_lookT (i : Nat) {ds : List D} (h : ρ[i]? = some (.own ds)) (k : WE c te (ρ.set i (.val (.lst ds))) n fun n1 d => noLst d = true ∧ Φ n1 d) : WE c te ρ n Φ := fun P L σ H Q E q => by
  obtain ⟨L', E', sub, l, xs, hL, lL, hx⟩ := E.freeze2 h
  refine k P L' σ H Q E' fun v d n1 H1 s1 j1 r1 ⟨hs, k1⟩ => q v d n1 H1 s1 j1 ?_ k1
  have hB : l ∉ c.B := E.notB lL
  have h1 : H1 l = some (.lst xs) := (hid_some.mp (s1 l _ (hid_some.mpr ⟨hB, hx⟩))).2
  exact (rt_drop (noTup_lst h1) d v r1 hs).mono (same_hid_sub fun a ha => by
    rcases List.mem_append.mp ha with q | q
    · rcases hL a q with e | e
      · rw [e]; exact List.mem_cons_self
      · exact List.mem_cons_of_mem _ (List.mem_append_left _ e)
    · exact List.mem_cons_of_mem _ (List.mem_append_right _ q))
end
end L3
/-! L3w: for k in d; list(d), len(d), isinstance(d, dict), d == e. -/
namespace L3
open PySem L2
def tLockOr (t : TS) : TS := fun D σ H => tLock t D σ H ∨ t D σ H
theorem ps_lockOr {X : Cx} {st : Stmt} {t : TS} (h : PS X st t) : PS X st (tLockOr t) := by
  refine ⟨fun pins s σ H D I hw => ?_⟩
  rcases hw with hw | hw
  · exact (ps_lock h).run pins s σ H D I hw
  · exact h.run pins s σ H D I hw
/-! ### a dict, locked or not -/
def DkC (xs : List (L2.Key × V)) (o : Option HO) : Prop := o = some (.dK xs) ∨ ∃ od, o = some (.frz od (.dK xs))
/-- two heaps that agree but for the lock of one dict -/
structure Ag (d : Addr) (xs : List (L2.Key × V)) (H H' : Hp) : Prop where
  off : ∀ a, a ≠ d → H' a = H a
  a1 : DkC xs (H d)
  a2 : DkC xs (H' d)
section
variable {d : Addr} {xs : List (L2.Key × V)} {H H' : Hp}
theorem Ag.symm (A : Ag d xs H H') : Ag d xs H' H := ⟨fun a h => (A.off a h).symm, A.a2, A.a1⟩
theorem Ag.hid {O : List Addr} (A : Ag d xs H H') (h : d ∉ O) : Ag d xs (hid O H) (hid O H') := ⟨fun a ha => by
  unfold L3.hid
  by_cases q : a ∈ O
  · rw [if_pos q, if_pos q]
  · rw [if_neg q, if_neg q]; exact A.off a ha, by rw [hid_out h]; exact A.a1, by rw [hid_out h]; exact A.a2⟩
theorem Ag.lst (A : Ag d xs H H') {a : Addr} {ys : List V} (h : Rd H a (.lst ys)) : Rd H' a (.lst ys) := by
  have ne : a ≠ d := fun e => by
    subst e
    rcases h with h | ⟨o, h⟩ <;> rcases A.a1 with q | ⟨od, q⟩ <;> (rw [h] at q; cases q)
  unfold Rd
  rw [A.off a ne]; exact h
theorem Ag.tup (A : Ag d xs H H') {a : Addr} {ys : List V} (h : Rd H a (.tup ys)) : Rd H' a (.tup ys) := by
  have ne : a ≠ d := fun e => by
    subst e
    rcases h with h | ⟨o, h⟩ <;> rcases A.a1 with q | ⟨od, q⟩ <;> (rw [h] at q; cases q)
  unfold Rd
  rw [A.off a ne]; exact h
theorem Ag.sqt (A : Ag d xs H H') {K : PySem.W.Frag} {a : Addr} {ys : List V} (h : SqT K H a ys) : SqT K H' a ys := by
  rcases h with h | h
  · exact .inl (A.tup h)
  · exact .inr h
theorem Ag.dK (A : Ag d xs H H') {a : Addr} {ys : List (L2.Key × V)} (h : Rd H a (.dK ys)) : Rd H' a (.dK ys) := by
  by_cases e : a = d
  · subst e
    have ey : ys = xs := by rcases h with h | ⟨o, h⟩ <;> rcases A.a1 with q | ⟨od, q⟩ <;> (rw [h] at q; cases q; try rfl)
    subst ey
    rcases A.a2 with q | ⟨od, q⟩
    · exact .inl q
    · exact .inr ⟨od, q⟩
  · unfold Rd
    rw [A.off a e]; exact h
theorem Ag.ne {a : Addr} {o : HO} (A : Ag d xs H H') (h : H a = some o) (n1 : ∀ ys, o ≠ .dK ys) (n2 : ∀ od u, o ≠ .frz od u) : a ≠ d := fun e => by
  subst e
  rcases A.a1 with q | ⟨od, q⟩
  · rw [h] at q; exact n1 _ (Option.some.inj q)
  · rw [h] at q; exact n2 _ _ (Option.some.inj q)
theorem Ag.ins (A : Ag d xs H H') {a C dx : Addr} {fs : List (Str × V)} (h : H a = some (.ins C dx fs)) : H' a = some (.ins C dx fs) := by
  rw [A.off a (A.ne h (fun _ => nofun) fun _ _ => nofun)]; exact h
theorem Ag.rext (A : Ag d xs H H') {a : Addr} {φ : Heap → Prop} (h : Rd H a (.ext φ)) : Rd H' a (.ext φ) := by
  have ne : a ≠ d := fun e => by
    subst e
    rcases h with h | ⟨o, h⟩ <;> rcases A.a1 with q | ⟨od, q⟩ <;> (rw [h] at q; cases q)
  unfold Rd
  rw [A.off a ne]; exact h
theorem Ag.ext (A : Ag d xs H H') {a : Addr} {φ : Heap → Prop} (h : H a = some (.ext φ)) : H' a = some (.ext φ) := by
  rw [A.off a (A.ne h (fun _ => nofun) fun _ _ => nofun)]; exact h
mutual
theorem Rp.ag {K : PySem.W.Frag} {d : Addr} {xs : List (L2.Key × V)} {H H' : Hp} (A : Ag d xs H H') : ∀ {v : V} {x : D}, Rp K H v x → Rp K H' v x
  | _, _, .non => .non
  | _, _, .bl b => .bl b
  | _, _, .int i => .int i
  | _, _, .str x => .str x
  | _, _, .lst h r => .lst (A.lst h) (RpAll.ag A r)
  | _, _, .tup h r => .tup (A.sqt h) (RpAll.ag A r)
  | _, _, .obj h r => .obj (A.ins h) (RpFs.ag A r)
  | _, _, .adr a => .adr a
  | _, _, .ty n => .ty n
  | _, _, .dct h r => .dct (A.dK h) (RpKs.ag A r)
  | _, _, .dcn h s r => .dcn (A.rext h) s (RpNs.ag A r)
theorem RpAll.ag {K : PySem.W.Frag} {d : Addr} {xs : List (L2.Key × V)} {H H' : Hp} (A : Ag d xs H H') : ∀ {vs : List V} {ds : List D}, RpAll K H vs ds → RpAll K H' vs ds
  | _, _, .nil => .nil
  | _, _, .cons h r => .cons (Rp.ag A h) (RpAll.ag A r)
theorem RpFs.ag {K : PySem.W.Frag} {d : Addr} {xs : List (L2.Key × V)} {H H' : Hp} (A : Ag d xs H H') : ∀ {vs : List (Str × V)} {ds : List (Str × D)}, RpFs K H vs ds → RpFs K H' vs ds
  | _, _, .nil => .nil
  | _, _, .cons h r => .cons (Rp.ag A h) (RpFs.ag A r)
theorem RpKs.ag {K : PySem.W.Frag} {d : Addr} {xs : List (L2.Key × V)} {H H' : Hp} (A : Ag d xs H H') : ∀ {vs : List (L2.Key × V)} {ds : List (L2.Key × D)}, RpKs K H vs ds → RpKs K H' vs ds
  | _, _, .nil => .nil
  | _, _, .cons h r => .cons (Rp.ag A h) (RpKs.ag A r)
theorem RpNs.ag {K : PySem.W.Frag} {d : Addr} {xs : List (L2.Key × V)} {H H' : Hp} (A : Ag d xs H H') : ∀ {vs : List (NestedKey × Addr × Value)} {ds : List (D × D)}, RpNs K H vs ds → RpNs K H' vs ds
  | _, _, .nil => .nil
  | _, _, .cons a b h w v r => .cons a b (Rp.ag A h) w (Rp.ag A v) (RpNs.ag A r)
end
theorem NDict.ag {pr : Program} {wd : World} {K : PySem.W.Frag} {O : List Addr} {l : Addr} {kvs : List (D × D)} (A : Ag d xs H H') (hd : d ∉ O) (h : NDict pr wd K O H l kvs) : NDict pr wd K O H' l kvs := by
  obtain ⟨ys, h1, h2, h3⟩ := h
  exact ⟨ys, A.ext h1, h2, ((RpNs.of h3).ag (A.hid hd)).pair⟩
theorem Slots.ag {pr : Program} {wd : World} {K : PySem.W.Frag} {O : List Addr} (A : Ag d xs H H') (hd : d ∉ O) : ∀ {σ : List (Option V)} {ρ : List SD} {L : List Addr}, Slots pr wd K O H σ ρ L → d ∉ L → Slots pr wd K O H' σ ρ L
  | _, _, _, .nil, _ => .nil
  | _, _, _, .un s, n => .un (Slots.ag A hd s n)
  | _, _, _, .val h s, n => .val (h.ag (A.hid hd)) (Slots.ag A hd s n)
  | _, _, _, .own (l := l) h r s, n => .own (by rw [A.off l fun e => n (e ▸ List.mem_cons_self)]; exact h) (r.ag (A.hid hd)) (Slots.ag A hd s fun q => n (List.mem_cons_of_mem _ q))
  | _, _, _, .dic h s, n => .dic (h.ag A hd) (Slots.ag A hd s fun q => n (List.mem_cons_of_mem _ q))
  | _, _, _, .dk (l := l) ⟨ys, h, r⟩ s, n => .dk ⟨ys, by rw [A.off l fun e => n (e ▸ List.mem_cons_self)]; exact h, r.ag (A.hid hd)⟩ (Slots.ag A hd s fun q => n (List.mem_cons_of_mem _ q))
  | _, _, _, .tw ⟨vs, h, r, q⟩ s, n => .tw ⟨vs, (A.hid hd).sqt h, r.ag (A.hid hd), q.ag A hd⟩ (Slots.ag A hd s fun q => n (List.mem_cons_of_mem _ q))
theorem BagOk.ag {b q : Addr} {n : Nat} (A : Ag d xs H H') (h : BagOk b q n H) : BagOk b q n H' := by
  obtain ⟨t, r, cs, h1, h2, h3⟩ := h
  exact ⟨t, r, cs, by rw [A.off b (A.ne h1 (fun _ => nofun) fun _ _ => nofun)]; exact h1, by rw [A.off q (A.ne h2 (fun _ => nofun) fun _ _ => nofun)]; exact h2, h3⟩
end
section
variable {c : Ctx} {ρ : List SD} {n : Nat} {Ψ : Out} {ts : TS} {g : TG}
/-- a loop over a walk that stands here -/
theorem for_go {P : Hp} {L : List Addr} {σ : List (Option V)} {H : Hp} {Dn : Ends} {J : It} {ds : List D} (E : Env c P L n H σ ρ) (A : Acc c P Ψ Dn) (it : ItOk c J ds (hid (L ++ c.O) H)) (h : ∃ I : Nat → Nat → List SD → Prop, I 0 n ρ ∧
    (∀ k m ρ1 d, ds[k]? = some d → I k m ρ1 → WG c (fun _ _ => True) g d ρ1 m fun ρ2 => WS c ts ρ2 m { nx := I (k + 1), ct := I (k + 1), bk := Ψ.nx, rt := Ψ.rt }) ∧ (∀ m ρ1, I ds.length m ρ1 → Ψ.nx m ρ1)) : tFor (fun _ H R => R J H) g ts Dn σ H := by
  obtain ⟨I, h0, hs, hd⟩ := h
  have E1 := E.pers'
  have pp : Same P (hid (L ++ c.O) H) := E.pers
  have A' : Acc c (hid (L ++ c.O) H) Ψ Dn := { nx := fun L n H σ ρ E k => A.nx L n H σ ρ (E.persOf pp) k, rt := A.rt, bk := fun L n H σ ρ E k => A.bk L n H σ ρ (E.persOf pp) k, ct := fun L n H σ ρ E k => A.ct L n H σ ρ (E.persOf pp) k }
  refine ⟨fun i m σ H1 => m + i = ds.length ∧ ∃ L' n' ρ', Env c (hid (L ++ c.O) H) L' n' H1 σ ρ' ∧ I i n' ρ', ⟨ds.length, rfl, L, n, ρ, E1, h0⟩, ?_⟩
  rintro i m σ' H' ⟨hm, L', n', ρ', E', hI⟩
  by_cases hi : i < ds.length
  · right
    have hg : ds[i]? = some ds[i] := List.getElem?_eq_getElem hi
    obtain ⟨go, yl⟩ := it.go L' n' H' σ' ρ' E' i _ hg
    refine ⟨go, fun σ2 H2 => ∃ L2 n2 ρ2, Env c (hid (L ++ c.O) H) L2 n2 H2 σ2 ρ2 ∧ I (i + 1) n2 ρ2, ?_, ?_⟩
    · rintro σ2 H2 ⟨L2, n2, ρ2, E2, hI2⟩
      exact ⟨m - 1, by omega, by omega, L2, n2, ρ2, E2, hI2⟩
    · intro x H2 hy
      obtain ⟨sm, rx⟩ := yl x H2 hy
      have z := E'.same sm
      refine hs i n' ρ' _ hg hI _ L' σ' H2 x _ (E'.step z.1 z.2) rx fun σ3 ρ3 E3 _ k3 => ?_
      exact k3 _ L' σ3 H2 _ E3 { nx := fun L n H σ ρ E k => ⟨L, n, ρ, E, k⟩, rt := A.rt, bk := fun L n H σ ρ E k => A'.nx L n H σ ρ E k, ct := fun L n H σ ρ E k => ⟨L, n, ρ, E, k⟩ }
  · left
    have e : i = ds.length := by omega
    subst e
    exact ⟨it.stop L' n' H' σ' ρ' E' _ (Nat.le_refl _), A'.nx L' n' H' σ' ρ' E' (hd n' ρ' hI)⟩
def kD : L2.Key → D
  | .inl i => .int i
  | .inr x => .str x
theorem kD_rp {K : PySem.W.Frag} {H : Hp} : ∀ k : L2.Key, Rp K H (kV k) (kD k)
  | .inl i => .int i
  | .inr x => .str x
def keysD (kvs : List (L2.Key × D)) : List D := kvs.map fun kv => kD kv.1
theorem RpKs.keys {K : PySem.W.Frag} {H : Hp} : ∀ {xs : List (L2.Key × V)} {kvs : List (L2.Key × D)}, RpKs K H xs kvs → xs.map (·.1) = kvs.map (·.1)
  | _, _, .nil => rfl
  | _, _, .cons _ r => by rw [List.map_cons, List.map_cons, r.keys]
theorem it_k {d : Addr} {od : Obj} {xs : List (L2.Key × V)} {kvs : List (L2.Key × D)} {P : Hp} (hd : P d = some (.frz od (.dK xs))) (hr : RpKs c.K P xs kvs) : ItOk c (Itk d od xs) (keysD kvs) P where
  go := fun L n H σ ρ E i y hy => by
    unfold keysD at hy
    rw [List.getElem?_map] at hy
    have hp : H d = some (.frz od (.dK xs)) := (hid_some.mp (E.pers d _ hd)).2
    have hkk := hr.keys
    cases hk : kvs[i]? with
    | none => rw [hk] at hy; cases hy
    | some kv =>
      rw [hk] at hy
      have hl : i < xs.length := by rw [hr.length]; exact (List.getElem?_eq_some_iff.mp hk).1
      refine ⟨⟨hp, hl⟩, fun x H' ⟨e1, k, v, e2, e3⟩ => ?_⟩
      subst e1; subst e3
      have e4 : (xs.map (·.1))[i]? = some k := by rw [List.getElem?_map, e2]; rfl
      rw [hkk, List.getElem?_map, hk] at e4
      rw [← Option.some.inj hy, ← Option.some.inj e4]
      exact ⟨Same.refl _, kD_rp _⟩
  stop := fun L n H σ ρ E i hi => by
    unfold keysD at hi
    rw [List.length_map, ← hr.length] at hi
    exact ⟨(hid_some.mp (E.pers d _ hd)).2, hi⟩
/-- for k in d -/
theorem ws_forK {i : Nat} {kvs : List (L2.Key × D)} (h0 : ρ[i]? = some (.val (.dct kvs))) (h : ∀ H0', ∃ I : Nat → Nat → List SD → Prop, I 0 n ρ ∧
    (∀ k m ρ1 d, (keysD kvs)[k]? = some d → I k m ρ1 → WG { c with H0 := H0' } (fun _ _ => True) g d ρ1 m fun ρ2 => WS { c with H0 := H0' } ts ρ2 m { nx := I (k + 1), ct := I (k + 1), bk := Ψ.nx, rt := Ψ.rt }) ∧ (∀ m ρ1, I (keysD kvs).length m ρ1 → Ψ.nx m ρ1)) :
    WS c (tLockOr (tFor (iKeys (tVar i)) g ts)) ρ n Ψ := fun P L σ H Dn E A => by
  obtain ⟨Ls, sl, sb⟩ := E.slots
  obtain ⟨v, hv, rv⟩ := sl.get h0
  cases rv with
  | @dct d xs _ hd rk =>
    rcases hd with hd | ⟨od, hd⟩
    · -- not locked yet
      left
      have hdO : d ∉ L ++ c.O := (hid_some.mp hd).1
      have hdL : d ∉ L := fun q => hdO (List.mem_append_left _ q)
      have hdc : d ∉ c.O := fun q => hdO (List.mem_append_right _ q)
      have hH := (hid_some.mp hd).2
      refine ⟨d, .dK xs, hH, True.intro, fun od => ?_⟩
      have AG : Ag d xs H (upd H d (.frz od (.dK xs))) := ⟨fun a ha => upd_ne ha, .inl hH, .inr ⟨od, upd_same⟩⟩
      generalize hH1 : upd H d (.frz od (.dK xs)) = H1 at AG
      have hd1 : H1 d = some (.frz od (.dK xs)) := by rw [← hH1]; exact upd_same
      -- the context of the loop
      have E' : Env { c with H0 := hid L H1 } (hid (L ++ c.O) H1) L n H1 σ ρ :=
        { nd := E.nd, fresh := fun l hl => ⟨hid_in hl, (E.fresh l hl).2⟩,
          slots := ⟨Ls, sl.ag AG hdO fun q => hdL (sb.subset q), sb⟩,
          lst := fun l hl => by
            rw [AG.off l fun e => hdL (e ▸ hl)]; exact E.lst l hl,
          bag := fun b q hb => (E.bag b q hb).ag AG,
          base := fun a o e => by
            obtain ⟨e1, e2⟩ := hid_some.mp e
            exact hid_some.mpr ⟨e1, (hid_some.mp e2).2⟩,
          pers := Same.refl _, bO := E.bO,
          al := fun o ho => by rw [AG.off o fun e => hdc (e ▸ ho)]; exact E.al o ho }
      -- back to the old context
      have back : ∀ {L2 n2 H2 σ2 ρ2}, Env { c with H0 := hid L H1 } (hid (L ++ c.O) H1) L2 n2 H2 σ2 ρ2 → H2 d = some (.frz od (.dK xs)) ∧ Env c P L2 n2 (upd H2 d (.dK xs)) σ2 ρ2 := fun {L2 n2 H2 σ2 ρ2} E2 => by
        have hd2 : H2 d = some (.frz od (.dK xs)) := (hid_some.mp (E2.pers d _ (hid_some.mpr ⟨hdO, hd1⟩))).2
        have hdL2 : d ∉ L2 := fun q => by
          have := (E2.fresh d q).1
          have z : hid L H1 d = none := this
          rw [hid_out hdL, hd1] at z; cases z
        have hdO2 : d ∉ L2 ++ c.O := fun q => by
          rcases List.mem_append.mp q with q | q
          · exact hdL2 q
          · exact hdc q
        have AG2 : Ag d xs H2 (upd H2 d (.dK xs)) := ⟨fun a ha => upd_ne ha, .inr ⟨od, hd2⟩, .inl upd_same⟩
        have old : ∀ a o, a ∉ L → a ∉ c.B → H a = some o → upd H2 d (.dK xs) a = some o := fun a o ha hb ho => by
          by_cases e : a = d
          · subst e; rw [upd_same, ← ho, hH]
          · rw [upd_ne e]
            have : hid L H1 a = some o := by rw [hid_out ha, AG.off a e]; exact ho
            exact (hid_some.mp (E2.base a o (hid_some.mpr ⟨hb, this⟩))).2
        refine ⟨hd2, ?_⟩
        obtain ⟨Ls2, sl2, sb2⟩ := E2.slots
        exact { nd := E2.nd, fresh := fun l hl => ⟨(by
                  have h1 : hid L H1 l = none := (E2.fresh l hl).1
                  cases hz : c.H0 l with
                  | none => rfl
                  | some o =>
                    have hlL : l ∉ L := fun q => by rw [(E.fresh l q).1] at hz; cases hz
                    have hlB : l ∉ c.B := fun q => (E2.fresh l hl).2 (E.inO q)
                    have := (hid_some.mp (E.base l o (hid_some.mpr ⟨hlB, hz⟩))).2
                    rw [hid_out hlL] at h1
                    by_cases e : l = d
                    · subst e; rw [hd1] at h1; cases h1
                    · rw [AG.off l e, this] at h1; cases h1), (E2.fresh l hl).2⟩,
                slots := ⟨Ls2, sl2.ag AG2 hdO2 fun q => hdL2 (sb2.subset q), sb2⟩,
                lst := fun l hl => by rw [AG2.off l fun e => hdL2 (e ▸ hl)]; exact E2.lst l hl,
                bag := fun b q hb => (E2.bag b q hb).ag AG2,
                base := fun a o e => by
                  obtain ⟨e1, e2⟩ := hid_some.mp e
                  have haL : a ∉ L := fun q => by rw [(E.fresh a q).1] at e2; cases e2
                  exact hid_some.mpr ⟨e1, old a o haL e1 (hid_some.mp (E.base a o e)).2⟩,
                pers := fun a o e => by
                  obtain ⟨e1, e2⟩ := hid_some.mp (E.pers a o e)
                  have haL : a ∉ L := fun q => e1 (List.mem_append_left _ q)
                  have haO : a ∉ c.O := fun q => e1 (List.mem_append_right _ q)
                  refine hid_some.mpr ⟨fun q => ?_, old a o haL (fun q => haO (E.inO q)) e2⟩
                  rcases List.mem_append.mp q with q | q
                  · have h1 : hid L H1 a = none := (E2.fresh a q).1
                    rw [hid_out haL] at h1
                    by_cases e : a = d
                    · subst e; rw [hd1] at h1; cases h1
                    · rw [AG.off a e, e2] at h1; cases h1
                  · exact haO q,
                bO := E.bO,
                al := fun o ho => by rw [AG2.off o fun e => hdc (e ▸ ho)]; exact E2.al o ho }
      have hdB : d ∉ c.B := fun q => hdc (E.inO q)
      refine ⟨.ref d, hv, d, od, rfl, .inl ⟨xs, hd1, ?_⟩⟩
      refine for_go (c := { c with H0 := hid L H1 }) (Ψ := Ψ) (ds := keysD kvs) E' ?_ (it_k (hid_some.mpr ⟨hdO, hd1⟩) (rk.ag (AG.hid hdO))) (h _)
      refine' { nx := fun L2 n2 H2 σ2 ρ2 E2 k => ?nx, rt := fun v y n2 H2 s2 j2 r2 k => ?rt, bk := fun L2 n2 H2 σ2 ρ2 E2 k => ?bk, ct := fun L2 n2 H2 σ2 ρ2 E2 k => ?ct }
      case nx =>
        obtain ⟨b1, b2⟩ := back E2
        exact ⟨b1, A.nx _ _ _ _ _ b2 k⟩
      case bk =>
        obtain ⟨b1, b2⟩ := back E2
        exact ⟨b1, A.bk _ _ _ _ _ b2 k⟩
      case ct =>
        obtain ⟨b1, b2⟩ := back E2
        exact ⟨b1, A.ct _ _ _ _ _ b2 k⟩
      case rt =>
        have hd2 : H2 d = some (.frz od (.dK xs)) := (hid_some.mp (s2 d _ (hid_some.mpr ⟨hdB, by show hid L H1 d = _; rw [hid_out hdL]; exact hd1⟩))).2
        have AG2 : Ag d xs H2 (upd H2 d (.dK xs)) := ⟨fun a ha => upd_ne ha, .inr ⟨od, hd2⟩, .inl upd_same⟩
        refine ⟨hd2, A.rt v y n2 _ (fun a o e => ?_) (fun b q hb => (j2 b q hb).ag AG2) (r2.ag (AG2.hid hdc)) k⟩
        obtain ⟨e1, e2⟩ := hid_some.mp e
        have haL : a ∉ L := fun q => by rw [(E.fresh a q).1] at e2; cases e2
        have ho := (hid_some.mp (E.base a o e)).2
        refine hid_some.mpr ⟨e1, ?_⟩
        by_cases q : a = d
        · subst q; rw [upd_same, ← ho, hH]
        · rw [upd_ne q]
          have : hid L H1 a = some o := by rw [hid_out haL, AG.off a q]; exact ho
          exact (hid_some.mp (s2 a o (hid_some.mpr ⟨e1, this⟩))).2
    · right
      refine ⟨.ref d, hv, d, od, rfl, .inl ⟨xs, (hid_some.mp hd).2, ?_⟩⟩
      exact for_go (c := c) (Ψ := Ψ) (ds := keysD kvs) E.pers' { nx := fun L n H σ ρ E2 k => A.nx L n H σ ρ (E2.persOf E.pers) k, rt := A.rt, bk := fun L n H σ ρ E2 k => A.bk L n H σ ρ (E2.persOf E.pers) k, ct := fun L n H σ ρ E2 k => A.ct L n H σ ρ (E2.persOf E.pers) k } (it_k hd rk) (h c.H0)
end
/-! ### list(d), len(d), isinstance(d, dict), == -/
def rListK (K : PySem.W.Frag) : List V → Hp → VK → Prop := fun vs H Q => ∃ (O : List Addr) (v : V) (kvs : List (L2.Key × D)), vs = [v] ∧ Rp K (hid O H) v (.dct kvs) ∧ ∀ p ys, H p = none → RpAll K (hid O H) ys (keysD kvs) → Q (.ref p) (upd H p (.lst ys))
theorem keysD_rp {K : PySem.W.Frag} {H H' : Hp} : ∀ {xs : List (L2.Key × V)} {kvs : List (L2.Key × D)}, RpKs K H xs kvs → RpAll K H' (xs.map fun kv => kV kv.1) (keysD kvs)
  | _, _, .nil => .nil
  | _, _, .cons _ r => .cons (kD_rp _) (keysD_rp r)
theorem x_listK {X : Cx} (K : PySem.W.Frag) (hc : X.calm = true := by rfl) (hK : X.K = K := by rfl) : CallR X (.type "list") (rListK K) := by
  subst hK
  intro pins s σ H xs us Q I r h
  obtain ⟨O, v, kvs0, e, hx, q⟩ := h
  subst e
  cases hx with
  | @dct p kvs _ hs rk0 =>
    obtain ⟨u, eu, rx⟩ := L2.vals1 r
    subst eu
    obtain rfl : u = Value.ref p := rx
    obtain ⟨z, lo, vs, rk, hd⟩ := (same_rd same_hid hs).ok I.hok
    obtain ⟨ep, hat⟩ := hd.dictAt
    have hl : kvs.length = vs.length := Paired.length rk
    refine PySem.W.kdl_call (PySem.W.kdl_dict (knd := mixKind X.prog X.w) (kvs := vs) (ep := ep) lo) (I.ok.hd hc) hat (by rw [← hl]; exact z) fun h' tk acc' c' hkeep hS hacc => ?_
    refine ⟨.ref s.heap.objs.size, upd H s.heap.objs.size (.lst (kvs.map fun kv => kV kv.1)), I.laid hkeep (Nat.le_refl _) (show ObjOk X.prog X.w _ _ _ (.lst (kvs.map fun kv => kV kv.1)) from ⟨?_, acc'.toList, c', ?_, ?_⟩), rfl, q _ _ (I.hok.fresh (Nat.le_refl _)) (keysD_rp rk0)⟩
    · rw [List.length_map]; exact z
    · have el : acc'.toList.length = acc'.size := by simp
      refine L2.vals_of_at (by rw [List.length_map, el, hacc.1, hl]) fun j x w h1 h2 => ?_
      obtain ⟨k, y, hky, hi⟩ := hacc.2 j w (by rw [← Array.getElem?_toList]; exact h2)
      have e1 : (kvs.map (·.1))[j]? = some k := by
        rw [KV.keys rk, List.getElem?_map, hky] <;> rfl
      have e2 : (kvs.map fun kv => kV kv.1)[j]? = some (kV k) := by
        have e3 : (kvs.map fun kv => kV kv.1) = (kvs.map (·.1)).map kV := by rw [List.map_map] <;> rfl
        rw [e3, List.getElem?_map, e1] <;> rfl
      rw [e2] at h1
      cases h1
      exact keyIs_rel hi
    · rw [Array.toArray_toList]; exact hS
theorem rc_listK {K : PySem.W.Frag} {Φ : D → Prop} {kvs : List (L2.Key × D)} (k : Φ (.lst (keysD kvs))) : RCD K (rListK K) [.dct kvs] Φ := fun O H xs Q rs no q => by
  obtain ⟨v, rfl, r⟩ := rs.one
  exact ⟨O, v, kvs, rfl, r, fun p ys hp ry => q _ _ _ (same_upd_new hp) (.lst (.inl (hid_at (no p hp))) (ry.mono (rp_upd (K := K) hp))) k⟩
def rLenK (K : PySem.W.Frag) : List V → Hp → VK → Prop := fun vs H Q => ∃ (O : List Addr) (v : V) (kvs : List (L2.Key × D)), vs = [v] ∧ Rp K (hid O H) v (.dct kvs) ∧ Q (.int kvs.length) H
theorem x_lenK {X : Cx} (K : PySem.W.Frag) (hK : X.K = K := by rfl) : CallR X (.builtin "len") (rLenK K) := by
  subst hK
  intro pins s σ H xs us Q I r h
  obtain ⟨O, v, kvs, e, hx, q⟩ := h
  subst e
  cases hx with
  | @dct p ys _ hs rk =>
    obtain ⟨u, eu, rx⟩ := L2.vals1 r
    subst eu
    obtain rfl : u = Value.ref p := rx
    refine d_len I (same_rd same_hid hs) fun t s' I' => ⟨.int kvs.length, H, I', ⟨t, by rw [rk.length]⟩, q⟩
theorem rc_lenK {K : PySem.W.Frag} {Φ : D → Prop} {kvs : List (L2.Key × D)} (k : Φ (.int kvs.length)) : RCD K (rLenK K) [.dct kvs] Φ := fun O H xs Q rs no q => by
  obtain ⟨v, rfl, r⟩ := rs.one
  exact ⟨O, v, kvs, rfl, r, q _ _ H (Same.refl _) (.int _) k⟩
theorem rc_isiK {K : PySem.W.Frag} {Φ : D → Prop} {kvs : List (L2.Key × D)} {U : String} {b : Bool} (hk : kitB "dict" U = some b) (k : Φ (.bl b)) : RCD K (rIsi K) [.dct kvs, .ty U] Φ := fun O H xs Q rs no q => by
  obtain ⟨v, u, rfl, r1, r2⟩ := rs.two
  cases r2
  cases r1 with
  | @dct p ys _ hs rk =>
    have ty : TyX K H (.ref p) (.type "dict") := by
      rcases same_rd same_hid hs with e | ⟨o, e⟩
      · exact .base (.dK e)
      · exact .fDict e
    exact ⟨_, .ty U, .type "dict", .type U, b, rfl, .ty U, ty, kit_ty hk, q _ _ H (Same.refl _) (.bl _) k⟩
theorem x_eqK {X : Cx} (K : PySem.W.Frag) (hu : X.A.units + 65 < cLine) (hK : X.K = K := by rfl) : OpR X (compareOp .Eq) (rEqK K false) := by
  subst hK
  intro pins s σ H x y v u Q I rx ry h
  obtain ⟨O, kvs, lvs, hx, hy, hl, hh, q⟩ := h
  cases hx with
  | @dct a ks _ ha ra =>
    cases hy with
    | @dct b ls _ hb rb =>
      cases rx
      cases ry
      obtain ⟨_, ya, va, va', da⟩ := (same_rd same_hid ha).ok I.hok
      obtain ⟨_, yb, vb, vb', db⟩ := (same_rd same_hid hb).ok I.hok
      refine PySem.W.keq_eq (knd := mixKind X.prog X.w) (r := true) ya yb da db (by omega) (fun _ => hitsD (A := X.A) I (by show X.A.units + 1 + 64 < cLine; omega) rb vb' ra va' hh) ?_
      have e : va.length = vb.length := by rw [← va'.length, ← vb'.length, ra.length, rb.length]; exact hl
      rw [show (va.length == vb.length && true) = true from by rw [e]; simp]
      exact ⟨.bl true, H, I, rfl, q⟩
end L3
/-! L3x: comprehensions over a dict whose keys are nested tuples. -/
namespace L3
open PySem L2
/-- the keys of the locked dict at d -/
def ItN (pr : Program) (wd : World) (d : Addr) (o : Obj) (xs : List (NestedKey × Addr × Value)) : It :=
  ⟨fun i H => H d = some (.frz o (.ext (DictBare pr wd xs d))) ∧ i < xs.length, fun i H x H' => H' = H ∧ ∃ y, xs[i]? = some y ∧ x = .ref y.2.1, fun i H => H d = some (.frz o (.ext (DictBare pr wd xs d))) ∧ xs.length ≤ i⟩
theorem frzN {X : Cx} {pins : List (Addr × Obj)} {σ : L2.St} {H : Hp} {s : Shared} {pr : Program} {wd : World} {d : Addr} {o : Obj} {xs : List (NestedKey × Addr × Value)} (I : Inv X pins σ H s) (h : H d = some (.frz o (.ext (DictBare pr wd xs d)))) :
    s.heap.get? d = some o ∧ o.ExactDict ∧ ∃ (es : Array DictEntry) (ep : Nat), o.data = .dict es ep ∧ es.size = xs.length ∧ ∀ (i : Nat) y, xs[i]? = some y → ∃ en, es[i]? = some en ∧ en.key = .ref y.2.1 := by
  obtain ⟨hd, ⟨o', es, ep, e1, e2, e3, e4, e5⟩, _⟩ := I.hok d _ h
  rw [hd] at e1
  cases e1
  refine ⟨hd, e2, es, ep, e3, by rw [← Array.length_toList, e4, List.length_map], fun i y hy => ?_⟩
  refine ⟨entryOfKey (nestedKind pr wd) y, ?_, rfl⟩
  rw [← Array.getElem?_toList, e4, List.getElem?_map, hy]
  rfl
theorem turn_keysN {P : Program} {w : World} {K : PySem.W.Frag} {tg : Expr} {d : Addr} {o : Obj} {es : Array DictEntry} {ep : Nat} {pr : Program} {wd : World} {xs : List (NestedKey × Addr × Value)} (it : Addr) (hod : o.data = .dict es ep) : Turn P w K tg (ItN pr wd d o xs) [it] it (fun i h => h.IsKeyIter it d i xs.length ep) where
  mem := by simp
  obj := fun i h st b hb => by
    have e : b = it := by simpa using hb
    subst e
    obtain ⟨oi, e, c, dd⟩ := st
    exact ⟨oi, e, fun v z => by rw [dd] at z; cases z⟩
  keep := fun i h h' st k => st.at fun oi e => k it (by simp) oi e
  item := by
    intro X hP hw hK hc i pins s σ H E I hf st hg
    subst hP hw hK
    obtain ⟨hd, hi⟩ := hg
    obtain ⟨f0, f1, f2, f3, f4, f5⟩ := hf it (by simp)
    obtain ⟨hgd, hx, es', ep', hdt, hsz, ent⟩ := frzN I hd
    obtain ⟨rfl, rfl⟩ := dict_ep hod hdt
    obtain ⟨y, hy⟩ : ∃ p, xs[i]? = some p := ⟨xs[i], List.getElem?_eq_getElem hi⟩
    obtain ⟨en, hen, hkey⟩ := ent i y hy
    refine next_key_item st hgd hdt hsz hen fun h' st' sb => ?_
    have I1 : Inv X pins σ H { s with heap := h' } := I.turned (t' := s.toks) (fun b ob hb e => (sb.2 b hb).trans e) f0 f1 f3 f4 f5
    obtain ⟨oi, e, c, dd⟩ := id st'
    exact ⟨en.key, rfl, go_of (s := { s with heap := h' }) e c dd (by decide) ⟨.ref y.2.1, H, I1, hkey, ⟨rfl, y, hy, rfl⟩, st', fun b hb => (hf b hb).1⟩⟩
  done := by
    intro X hP hw hK hc i pins s σ H E I hf st hg
    subst hP hw hK
    obtain ⟨hd, hi⟩ := hg
    obtain ⟨f0, f1, f2, f3, f4, f5⟩ := hf it (by simp)
    obtain ⟨hgd, hx, es', ep', hdt, hsz, ent⟩ := frzN I hd
    obtain ⟨rfl, rfl⟩ := dict_ep hod hdt
    exact next_key_end (I.ok.hd hc) st hgd hdt hsz hi fun h' eb => ⟨rfl, I.turned (t' := s.toks) (fun b ob hb e => eb b ob hb e) f0 f1 f3 f4 f5⟩
  self := fun A i s Q E st h => by
    refine wpAny_pyIter_slot st.typeIs F.slot_dict_keyiterator_iter (wpAny_call_entry F.slot_dict_keyiterator_iter st.typeIs F.entry_dict_keyiterator_iter ?_ (F.args_dict_keyiterator_iter_1 _))
    show wpAny _ _ (ret (.ref it)) _ _ s
    exact wpAny_pure ⟨_, rfl, "dict_keyiterator", _, st.typeIs, F.slot_dict_keyiterator_next.lookup, h⟩
def iKeysN (pr : Program) (wd : World) (td : TE) : TI := fun σ H R => td σ H fun x H1 => ∃ d o xs, x = .ref d ∧ (d == sysModules) = false ∧ H1 d = some (.frz o (.ext (DictBare pr wd xs d))) ∧ R (ItN pr wd d o xs) H1
theorem pi_keysN {X : Cx} {tg e : Expr} {td : TE} (pr : Program) (wd : World) (he : PE X e td) : PI X tg e (iKeysN pr wd td) := by
  refine ⟨fun pins s σ H R I h => ?_⟩
  refine thn (he.run pins s σ H _ I h) fun u s1 ⟨x, H1, I1, rx, d, o, xs, ex, hs, hd, q⟩ => ?_
  subst ex
  obtain rfl : u = Value.ref d := rx
  obtain ⟨hgd, hx, es, ep, hdt, hsz, ent⟩ := frzN I1 hd
  refine iter_keys hs hgd hx hdt (pi_one (tk := s1.toks) I1 _ (turn_keysN _ hdt) ⟨_, Heap.get?_push_size _ rfl, rfl, ?_⟩ q)
  rw [hsz] <;> rfl
def tLockEOr (t : TE) : TE := fun σ H Q => tLockE t σ H Q ∨ t σ H Q
theorem pe_lockOr {X : Cx} {e : Expr} {t : TE} (h : PE X e t) : PE X e (tLockEOr t) := by
  refine ⟨fun pins s σ H Q I hw => ?_⟩
  rcases hw with hw | hw
  · exact (pe_lock h).run pins s σ H Q I hw
  · exact h.run pins s σ H Q I hw
/-! ### two heaps that agree but for the lock of one such dict -/
def NC (φ : Heap → Prop) (o : Option HO) : Prop := o = some (.ext φ) ∨ ∃ od, o = some (.frz od (.ext φ))
structure AgN (d : Addr) (φ : Heap → Prop) (H H' : Hp) : Prop where
  off : ∀ a, a ≠ d → H' a = H a
  a1 : NC φ (H d)
  a2 : NC φ (H' d)
section
variable {d : Addr} {φ : Heap → Prop} {H H' : Hp}
theorem AgN.symm (A : AgN d φ H H') : AgN d φ H' H := ⟨fun a h => (A.off a h).symm, A.a2, A.a1⟩
theorem AgN.hid {O : List Addr} (A : AgN d φ H H') (h : d ∉ O) : AgN d φ (hid O H) (hid O H') := ⟨fun a ha => by
  unfold L3.hid
  by_cases q : a ∈ O
  · rw [if_pos q, if_pos q]
  · rw [if_neg q, if_neg q]; exact A.off a ha, by rw [hid_out h]; exact A.a1, by rw [hid_out h]; exact A.a2⟩
theorem AgN.lst (A : AgN d φ H H') {a : Addr} {ys : List V} (h : Rd H a (.lst ys)) : Rd H' a (.lst ys) := by
  have ne : a ≠ d := fun e => by
    subst e
    rcases h with h | ⟨o, h⟩ <;> rcases A.a1 with q | ⟨od, q⟩ <;> (rw [h] at q; cases q)
  unfold Rd
  rw [A.off a ne]; exact h
theorem AgN.tup (A : AgN d φ H H') {a : Addr} {ys : List V} (h : Rd H a (.tup ys)) : Rd H' a (.tup ys) := by
  have ne : a ≠ d := fun e => by
    subst e
    rcases h with h | ⟨o, h⟩ <;> rcases A.a1 with q | ⟨od, q⟩ <;> (rw [h] at q; cases q)
  unfold Rd
  rw [A.off a ne]; exact h
theorem AgN.sqt (A : AgN d φ H H') {K : PySem.W.Frag} {a : Addr} {ys : List V} (h : SqT K H a ys) : SqT K H' a ys := by
  rcases h with h | h
  · exact .inl (A.tup h)
  · exact .inr h
theorem AgN.dK (A : AgN d φ H H') {a : Addr} {ys : List (L2.Key × V)} (h : Rd H a (.dK ys)) : Rd H' a (.dK ys) := by
  have ne : a ≠ d := fun e => by
    subst e
    rcases h with h | ⟨o, h⟩ <;> rcases A.a1 with q | ⟨od, q⟩ <;> (rw [h] at q; cases q)
  unfold Rd
  rw [A.off a ne]; exact h
theorem AgN.ne {a : Addr} {o : HO} (A : AgN d φ H H') (h : H a = some o) (n1 : ∀ ys, o ≠ .ext ys) (n2 : ∀ od u, o ≠ .frz od u) : a ≠ d := fun e => by
  subst e
  rcases A.a1 with q | ⟨od, q⟩
  · rw [h] at q; exact n1 _ (Option.some.inj q)
  · rw [h] at q; exact n2 _ _ (Option.some.inj q)
theorem AgN.ins (A : AgN d φ H H') {a C dx : Addr} {fs : List (Str × V)} (h : H a = some (.ins C dx fs)) : H' a = some (.ins C dx fs) := by
  rw [A.off a (A.ne h (fun _ => nofun) fun _ _ => nofun)]; exact h
theorem AgN.rext (A : AgN d φ H H') {a : Addr} {ψ : Heap → Prop} (h : Rd H a (.ext ψ)) : Rd H' a (.ext ψ) := by
  by_cases e : a = d
  · subst e
    have ey : ψ = φ := by rcases h with h | ⟨o, h⟩ <;> rcases A.a1 with q | ⟨od, q⟩ <;> (rw [h] at q; cases q; try rfl)
    subst ey
    rcases A.a2 with q | ⟨od, q⟩
    · exact .inl q
    · exact .inr ⟨od, q⟩
  · unfold Rd
    rw [A.off a e]; exact h
mutual
theorem Rp.agN {K : PySem.W.Frag} {d : Addr} {φ : Heap → Prop} {H H' : Hp} (A : AgN d φ H H') : ∀ {v : V} {x : D}, Rp K H v x → Rp K H' v x
  | _, _, .non => .non
  | _, _, .bl b => .bl b
  | _, _, .int i => .int i
  | _, _, .str x => .str x
  | _, _, .lst h r => .lst (A.lst h) (RpAll.agN A r)
  | _, _, .tup h r => .tup (A.sqt h) (RpAll.agN A r)
  | _, _, .obj h r => .obj (A.ins h) (RpFs.agN A r)
  | _, _, .adr a => .adr a
  | _, _, .ty n => .ty n
  | _, _, .dct h r => .dct (A.dK h) (RpKs.agN A r)
  | _, _, .dcn h s r => .dcn (A.rext h) s (RpNs.agN A r)
theorem RpAll.agN {K : PySem.W.Frag} {d : Addr} {φ : Heap → Prop} {H H' : Hp} (A : AgN d φ H H') : ∀ {vs : List V} {ds : List D}, RpAll K H vs ds → RpAll K H' vs ds
  | _, _, .nil => .nil
  | _, _, .cons h r => .cons (Rp.agN A h) (RpAll.agN A r)
theorem RpFs.agN {K : PySem.W.Frag} {d : Addr} {φ : Heap → Prop} {H H' : Hp} (A : AgN d φ H H') : ∀ {vs : List (Str × V)} {ds : List (Str × D)}, RpFs K H vs ds → RpFs K H' vs ds
  | _, _, .nil => .nil
  | _, _, .cons h r => .cons (Rp.agN A h) (RpFs.agN A r)
theorem RpKs.agN {K : PySem.W.Frag} {d : Addr} {φ : Heap → Prop} {H H' : Hp} (A : AgN d φ H H') : ∀ {vs : List (L2.Key × V)} {ds : List (L2.Key × D)}, RpKs K H vs ds → RpKs K H' vs ds
  | _, _, .nil => .nil
  | _, _, .cons h r => .cons (Rp.agN A h) (RpKs.agN A r)
theorem RpNs.agN {K : PySem.W.Frag} {d : Addr} {φ : Heap → Prop} {H H' : Hp} (A : AgN d φ H H') : ∀ {vs : List (NestedKey × Addr × Value)} {ds : List (D × D)}, RpNs K H vs ds → RpNs K H' vs ds
  | _, _, .nil => .nil
  | _, _, .cons a b h w v r => .cons a b (Rp.agN A h) w (Rp.agN A v) (RpNs.agN A r)
end
theorem NDict.agN {pr : Program} {wd : World} {K : PySem.W.Frag} {O : List Addr} {l : Addr} {kvs : List (D × D)} (A : AgN d φ H H') (hd : d ∉ O) (ne : l ≠ d) (h : NDict pr wd K O H l kvs) : NDict pr wd K O H' l kvs := by
  obtain ⟨ys, h1, h2, h3⟩ := h
  exact ⟨ys, (A.off l ne).trans h1, h2, ((RpNs.of h3).agN (A.hid hd)).pair⟩
theorem Slots.agN {pr : Program} {wd : World} {K : PySem.W.Frag} {O : List Addr} (A : AgN d φ H H') (hd : d ∉ O) : ∀ {σ : List (Option V)} {ρ : List SD} {L : List Addr}, Slots pr wd K O H σ ρ L → d ∉ L → Slots pr wd K O H' σ ρ L
  | _, _, _, .nil, _ => .nil
  | _, _, _, .un s, n => .un (Slots.agN A hd s n)
  | _, _, _, .val h s, n => .val (h.agN (A.hid hd)) (Slots.agN A hd s n)
  | _, _, _, .own (l := l) h r s, n => .own (by rw [A.off l fun e => n (e ▸ List.mem_cons_self)]; exact h) (r.agN (A.hid hd)) (Slots.agN A hd s fun q => n (List.mem_cons_of_mem _ q))
  | _, _, _, .dic (l := l) h s, n => .dic (h.agN A hd fun e => n (e ▸ List.mem_cons_self)) (Slots.agN A hd s fun q => n (List.mem_cons_of_mem _ q))
  | _, _, _, .dk (l := l) ⟨ys, h, r⟩ s, n => .dk ⟨ys, by rw [A.off l fun e => n (e ▸ List.mem_cons_self)]; exact h, r.agN (A.hid hd)⟩ (Slots.agN A hd s fun q => n (List.mem_cons_of_mem _ q))
  | _, _, _, .tw (l := l) ⟨vs, h, r, q⟩ s, n => .tw ⟨vs, (A.hid hd).sqt h, r.agN (A.hid hd), q.agN A hd fun e => n (e ▸ List.mem_cons_self)⟩ (Slots.agN A hd s fun q => n (List.mem_cons_of_mem _ q))
theorem BagOk.agN {b q : Addr} {n : Nat} (A : AgN d φ H H') (h : BagOk b q n H) : BagOk b q n H' := by
  obtain ⟨t, r, cs, h1, h2, h3⟩ := h
  exact ⟨t, r, cs, by rw [A.off b (A.ne h1 (fun _ => nofun) fun _ _ => nofun)]; exact h1, by rw [A.off q (A.ne h2 (fun _ => nofun) fun _ _ => nofun)]; exact h2, h3⟩
end
section
variable {c : Ctx} {ρ : List SD} {n : Nat} {g : TG} {te : TE} {t : TT} {vs : List Nat}
def keysN (kvs : List (D × D)) : List D := kvs.map (·.1)
theorem RpNs.len {K : PySem.W.Frag} {H : Hp} : ∀ {xs : List (NestedKey × Addr × Value)} {kvs : List (D × D)}, RpNs K H xs kvs → xs.length = kvs.length
  | _, _, .nil => rfl
  | _, _, .cons _ _ _ _ _ r => by rw [List.length_cons, List.length_cons, r.len]
theorem RpNs.key {K : PySem.W.Frag} {H : Hp} : ∀ {xs : List (NestedKey × Addr × Value)} {kvs : List (D × D)} {i : Nat} {kv : D × D}, RpNs K H xs kvs → kvs[i]? = some kv → ∃ y, xs[i]? = some y ∧ Rp K H (.ref y.2.1) kv.1
  | _, _, _, _, .nil, e => by simp at e
  | _, _, 0, _, .cons _ _ h _ _ _, e => by simp at e; subst e; exact ⟨_, rfl, h⟩
  | _, _, i + 1, _, .cons _ _ _ _ _ r, e => by
    obtain ⟨y, h1, h2⟩ := RpNs.key (i := i) r (by simpa using e)
    exact ⟨y, by simpa using h1, h2⟩
theorem it_n {pr : Program} {wd : World} {d : Addr} {od : Obj} {xs : List (NestedKey × Addr × Value)} {kvs : List (D × D)} {P : Hp} (hd : P d = some (.frz od (.ext (DictBare pr wd xs d)))) (hr : RpNs c.K P xs kvs) : ItOk c (ItN pr wd d od xs) (keysN kvs) P where
  go := fun L n H σ ρ E i y hy => by
    unfold keysN at hy
    rw [List.getElem?_map] at hy
    have hp : H d = some (.frz od (.ext (DictBare pr wd xs d))) := (hid_some.mp (E.pers d _ hd)).2
    cases hk : kvs[i]? with
    | none => rw [hk] at hy; cases hy
    | some kv =>
      rw [hk] at hy
      cases hy
      have hl : i < xs.length := by rw [hr.len]; exact (List.getElem?_eq_some_iff.mp hk).1
      refine ⟨⟨hp, hl⟩, fun x H' ⟨e1, y, e2, e3⟩ => ?_⟩
      subst e1; subst e3
      obtain ⟨y', g1, g2⟩ := hr.key hk
      rw [g1] at e2
      cases e2
      exact ⟨Same.refl _, g2.mono E.pers⟩
  stop := fun L n H σ ρ E i hi => by
    unfold keysN at hi
    rw [List.length_map, ← hr.len] at hi
    exact ⟨(hid_some.mp (E.pers d _ hd)).2, hi⟩
/-- the comprehension's part -/
def LcN (c : Ctx) (g : TG) (t : TT) (te : TE) (vs : List Nat) (ρ : List SD) (n : Nat) (ds : List D) (Φ : Nat → List D → Prop) : Prop := ∃ I : Nat → Nat → List D → Prop, I 0 n [] ∧
    (∀ k m acc d, ds[k]? = some d → I k m acc → WG c (RW vs) g d (wipeR ρ vs) m fun ρ2 => WT c t ρ2 m fun m2 b => if b = true then WE c te ρ2 m2 fun m3 y => acc.length < sizeLine ∧ I (k + 1) m3 (acc ++ [y]) else I (k + 1) m2 acc) ∧
    (∀ m acc, I ds.length m acc → Φ m acc)
/-- a comprehension over a walk that stands here -/
theorem lc_go {Φ : Nat → List D → Prop} {ds : List D} {P : Hp} {L : List Addr} {σ : List (Option V)} {H : Hp} {Q : VK} {J : It} (E : Env c P L n H σ ρ) (it : ItOk c J ds (hid (L ++ c.O) H)) (h : LcN c g t te vs ρ n ds Φ)
    (q : ∀ p xs ds n' H', Same (hid c.B H) (hid c.B H') → H p = none → H' p = some (.lst xs) → RpAll c.K (hid (p :: (L ++ c.O)) H') xs ds → c.J n' H' → Φ n' ds → Q (.ref p) H') : tLc (fun _ H R => R J H) g t te vs σ H Q := by
  obtain ⟨I, h0, hs, hd⟩ := h
  intro D hD
  have E1 := E.pers'
  obtain ⟨Ls, sl, sb⟩ := E1.slots
  obtain ⟨Lw, slw, sbw⟩ := sl.wipe vs
  have Ew : Env c (hid (L ++ c.O) H) L n H (wipe σ vs) (wipeR ρ vs) := E1.reslot slw (sbw.trans sb)
  have E2 := Ew.newOwn (xs := []) hD
  have DnL : D ∉ L := (E1.new hD).2.2
  -- the loop's invariant
  refine ⟨fun i m H' => m + i = ds.length ∧ ∃ n' xs acc, Env c (hid (L ++ c.O) H) (D :: L) n' H' (wipe σ vs) (wipeR ρ vs) ∧ H' D = some (.lst xs) ∧ RpAll c.K (hid ((D :: L) ++ c.O) H') xs acc ∧ Same (hid c.B H) (hid c.B H') ∧ I i n' acc, ⟨ds.length, rfl, n, [], [], E2, upd_same, .nil, (E1.newT hD).1, h0⟩, ?_⟩
  rintro i m H' ⟨hm, n', xs, acc, E', hDx, hacc, sB, hI⟩
  by_cases hi : i < ds.length
  · right
    have hg : ds[i]? = some ds[i] := List.getElem?_eq_getElem hi
    obtain ⟨go, yl⟩ := it.go (D :: L) n' H' _ _ E' i _ hg
    refine ⟨go, fun H2 => ∃ n' xs acc, Env c (hid (L ++ c.O) H) (D :: L) n' H2 (wipe σ vs) (wipeR ρ vs) ∧ H2 D = some (.lst xs) ∧ RpAll c.K (hid ((D :: L) ++ c.O) H2) xs acc ∧ Same (hid c.B H) (hid c.B H2) ∧ I (i + 1) n' acc, ?_, ?_⟩
    · rintro H2 ⟨n2, xs2, acc2, a1, a2, a3, a4, a5⟩
      exact ⟨m - 1, by omega, by omega, n2, xs2, acc2, a1, a2, a3, a4, a5⟩
    · intro x H2 hy
      obtain ⟨sm, rx⟩ := yl x H2 hy
      have z := E'.same sm
      have E2' := E'.step z.1 z.2
      refine hs i n' acc _ hg hI _ (D :: L) _ H2 x _ E2' rx fun σ3 ρ3 E3 hw k3 => ?_
      refine ⟨hw.trans (wipe_idem σ vs), ?_⟩
      refine k3 _ (D :: L) σ3 H2 _ E3 fun b n4 H4 s4 j4 k4 => ?_
      have back : ∀ {H5 : Hp} {n5 : Nat}, Same (hid c.B H2) (hid c.B H5) → c.J n5 H5 → Env c (hid (L ++ c.O) H) (D :: L) n5 H5 (wipe σ vs) (wipeR ρ vs) := fun s5 j5 => E2'.step s5 j5
      have own : ∀ {H5 : Hp}, Same (hid c.B H2) (hid c.B H5) → H5 D = some (.lst xs) := fun s5 => by
        rw [E2'.own s5 D List.mem_cons_self]
        exact sm D _ hDx
      have accs : ∀ {H5 : Hp}, Same (hid c.B H2) (hid c.B H5) → RpAll c.K (hid ((D :: L) ++ c.O) H5) xs acc := fun s5 => (hacc.mono (same_hid_of sm)).mono (E2'.sameLO s5)
      cases b with
      | false =>
        rw [if_neg Bool.false_ne_true] at k4 ⊢
        exact ⟨n4, xs, acc, back s4 j4, own s4, accs s4, (sB.trans z.1).trans s4, k4⟩
      | true =>
        rw [if_pos rfl] at k4 ⊢
        refine k4 _ (D :: L) σ3 H4 _ (E3.step s4 j4) fun y d n5 H5 s5 j5 r5 ⟨hz, k5⟩ => ?_
        have s45 := s4.trans s5
        refine ⟨xs, own s45, by rw [hacc.length]; exact hz, n5, xs ++ [y], acc ++ [d], ?_, upd_same, ?_, ?_, k5⟩
        · have Eb := back s45 j5
          obtain ⟨Ls5, sl5, sb5⟩ := Eb.slots
          have e5 := sl5.inj slw
          subst e5
          exact Eb.grow List.mem_cons_self sl5 sb5 fun q => DnL ((sbw.trans sb).subset q)
        · have hm : D ∈ (D :: L) ++ c.O := List.mem_append_left _ List.mem_cons_self
          rw [hid_upd_in hm]
          exact (accs s45).append (.cons r5 .nil)
        · exact same_upd_old hD ((sB.trans z.1).trans s45)
  · left
    have e : i = ds.length := by omega
    subst e
    refine ⟨it.stop (D :: L) n' H' _ _ E' _ (Nat.le_refl _), ?_⟩
    exact q D xs acc n' H' sB hD hDx hacc E'.bag (hd n' acc hI)

/-- [.. for .. in w[0]] -/
theorem wf_lcN {i : Nat} {kvs : List (D × D)} {ds : List D} {Φ : Nat → List D → Prop} (h0 : ρ[i]? = some (.val (.tup (.dcn c.pr c.wd kvs :: ds)))) (h : ∀ H0', LcN { c with H0 := H0' } g t te vs ρ n (keysN kvs) Φ) :
    WF c (tLockEOr (tLc (iKeysN c.pr c.wd (tOp (rIx c.K) (tVar i) (tC (.int 0)))) g t te vs)) ρ n Φ := fun P L σ H Q E q => by
  obtain ⟨Ls, sl, sb⟩ := E.slots
  obtain ⟨v, hv, rv⟩ := sl.get h0
  cases rv with
  | @tup a ws _ hsq rws =>
    cases rws with
    | @cons _ vs' _ _ r1 rr =>
      cases r1 with
      | @dcn d _ _ xs _ hd hsys rk =>
        have hix : ∀ (H2 : Hp) (R : V → Hp → Prop), SqT c.K H2 a (.ref d :: vs') → R (.ref d) H2 → tOp (rIx c.K) (tVar i) (tC (.int 0)) σ H2 R := fun H2 R h1 h2 => ⟨.ref a, hv, .inr (.inl ⟨a, _, 0, .ref d, rfl, rfl, h1, atI_nat (xs := V.ref d :: vs') (j := 0) rfl, h2⟩)⟩
        rcases hd with hd | ⟨od, hd⟩
        · -- not locked yet
          left
          have hdO : d ∉ L ++ c.O := (hid_some.mp hd).1
          have hdL : d ∉ L := fun q => hdO (List.mem_append_left _ q)
          have hdc : d ∉ c.O := fun q => hdO (List.mem_append_right _ q)
          have hH := (hid_some.mp hd).2
          refine ⟨d, .ext (DictBare c.pr c.wd xs d), hH, True.intro, fun od => ?_⟩
          have AG : AgN d (DictBare c.pr c.wd xs d) H (upd H d (.frz od (.ext (DictBare c.pr c.wd xs d)))) := ⟨fun a ha => upd_ne ha, .inl hH, .inr ⟨od, upd_same⟩⟩
          generalize hH1 : upd H d (.frz od (.ext (DictBare c.pr c.wd xs d))) = H1 at AG
          have hd1 : H1 d = some (.frz od (.ext (DictBare c.pr c.wd xs d))) := by rw [← hH1]; exact upd_same
          have E' : Env { c with H0 := hid L H1 } (hid (L ++ c.O) H1) L n H1 σ ρ :=
            { nd := E.nd, fresh := fun l hl => ⟨hid_in hl, (E.fresh l hl).2⟩,
              slots := ⟨Ls, sl.agN AG hdO fun q => hdL (sb.subset q), sb⟩,
              lst := fun l hl => by
                rw [AG.off l fun e => hdL (e ▸ hl)]; exact E.lst l hl,
              bag := fun b q hb => (E.bag b q hb).agN AG,
              base := fun a o e => by
                obtain ⟨e1, e2⟩ := hid_some.mp e
                exact hid_some.mpr ⟨e1, (hid_some.mp e2).2⟩,
              pers := Same.refl _, bO := E.bO,
              al := fun o ho => by rw [AG.off o fun e => hdc (e ▸ ho)]; exact E.al o ho }
          refine hix H1 _ (AG.sqt (same_t same_hid hsq)) ⟨d, od, xs, rfl, hsys, hd1, ?_⟩
          show tLc (fun _ H R => R (ItN c.pr c.wd d od xs) H) g t te vs σ H1 (fun v H' => H' d = some (.frz od (.ext (DictBare c.pr c.wd xs d))) ∧ Q v (upd H' d (.ext (DictBare c.pr c.wd xs d))))
          refine lc_go (c := { c with H0 := hid L H1 }) (P := hid (L ++ c.O) H1) (L := L) (J := ItN c.pr c.wd d od xs) E' (it_n (hid_some.mpr ⟨hdO, hd1⟩) (rk.agN (AG.hid hdO))) (h _) fun p ys es n2 H2 s2 hp hp2 r2 j2 k => ?_
          have hdB : d ∉ c.B := fun q => hdc (E.inO q)
          have hd2 : H2 d = some (.frz od (.ext (DictBare c.pr c.wd xs d))) := (hid_some.mp (s2 d _ (hid_some.mpr ⟨hdB, hd1⟩))).2
          have AG2 : AgN d (DictBare c.pr c.wd xs d) H2 (upd H2 d (.ext (DictBare c.pr c.wd xs d))) := ⟨fun a ha => upd_ne ha, .inr ⟨od, hd2⟩, .inl upd_same⟩
          have npd : p ≠ d := fun e => by rw [e, hd1] at hp; cases hp
          refine ⟨hd2, q p ys es n2 _ (fun a o e => ?_) ?_ (by rw [upd_ne npd]; exact hp2) (r2.agN (AG2.hid fun q => ?_)) (fun b q hb => (j2 b q hb).agN AG2) k⟩
          · obtain ⟨e1, e2⟩ := hid_some.mp e
            refine hid_some.mpr ⟨e1, ?_⟩
            by_cases q : a = d
            · subst q; rw [upd_same, ← e2, hH]
            · rw [upd_ne q]
              have : H1 a = some o := by rw [AG.off a q]; exact e2
              exact (hid_some.mp (s2 a o (hid_some.mpr ⟨e1, this⟩))).2
          · rw [← AG.off p npd]; exact hp
          · rcases List.mem_cons.mp q with q | q
            · exact npd q.symm
            · exact hdO q
        · right
          refine hix H _ (same_t same_hid hsq) ⟨d, od, xs, rfl, hsys, (hid_some.mp hd).2, ?_⟩
          show tLc (fun _ H R => R (ItN c.pr c.wd d od xs) H) g t te vs σ H Q
          exact lc_go (c := c) (L := L) (J := ItN c.pr c.wd d od xs) E.pers' (it_n hd rk) (h c.H0) q
end
end L3
/-! L3y: isinstance of a tuple of types; {k: v for ..}. -/
namespace L3
open PySem L2
def rIsi2 (K : PySem.W.Frag) : List V → Hp → VK → Prop := fun xs H Q => ∃ (x : V) (tp : Addr) (cs : List V) (t : Value) (us : List Value) (b : Bool), xs = [x, .ref tp] ∧ SqT K H tp cs ∧ Paired ClsV cs us ∧ TyX K H x t ∧ PySem.W.kitAny K t us = some b ∧ Q (.bl b) H
theorem x_isi2 {X : Cx} (K : PySem.W.Frag) (hK : X.K = K := by rfl) : CallR X (.builtin "isinstance") (rIsi2 K) := by
  subst hK
  intro pins s σ H xs us Q I r h
  obtain ⟨x, tp, cs, t, ws, b, rfl, hT, k, ty, e, q⟩ := h
  obtain ⟨u1, u2, rfl, r1, r2⟩ := vals2 r
  cases (show u2 = Value.ref tp from r2)
  obtain ⟨P, Z, p, hx⟩ := kit_of I r1 ty
  rcases hT with hT | ⟨o, its, n, hk, hc, hd, _, rv⟩
  · obtain ⟨_, its, rv, o, h1, h2, n, h3⟩ := hT.ok I.hok
    have e3 := ClsV.all k rv
    subst e3
    obtain ⟨oc, od, dt, sl⟩ := o
    simp only at h2 h3
    subst h2 h3
    exact PySem.W.kia_tup Z I.kIn p h1 e hx fun tk => ⟨.bl b, H, I.tok tk, rfl, q⟩
  · have e3 := ClsV.all k rv
    subst e3
    have h1 := I.kIn _ _ hk
    obtain ⟨oc, od, dt, sl⟩ := o
    obtain ⟨il⟩ := its
    simp only at hc hd
    subst hc hd
    exact PySem.W.kia_tup Z I.kIn p h1 e hx fun tk => ⟨.bl b, H, I.tok tk, rfl, q⟩
theorem rp_tys {K : PySem.W.Frag} {H : Hp} : ∀ {vs : List V} {Us : List String}, RpAll K H vs (Us.map .ty) → Paired ClsV vs (Us.map Value.type)
  | _, [], h => by cases h; exact .nil
  | _, U :: Us, h => by
    cases h with
    | cons h r => cases h; exact .cons (.ty U) (rp_tys r)
theorem rc_isi2 {K : PySem.W.Frag} {Φ : D → Prop} {d : D} {T : String} {Us : List String} {b : Bool} (h : tyD d = some T) (hk : PySem.W.kitAny K (.type T) (Us.map Value.type) = some b) (k : Φ (.bl b)) : RCD K (rIsi2 K) [d, .tup (Us.map .ty)] Φ := fun O H xs Q rs no q => by
  obtain ⟨v, u, rfl, r1, r2⟩ := rs.two
  cases r2 with
  | tup hs ha => exact ⟨v, _, _, .type T, _, b, rfl, same_t same_hid hs, rp_tys ha, tyD_X r1 h, hk, q _ _ H (Same.refl _) (.bl _) k⟩
theorem kit_rowL {K : PySem.W.Frag} : PySem.W.kitAny K (.type "list") (["list", "tuple"].map Value.type) = some true := kitAny_cons (b := true) (kit_ty (by decide +kernel)) nofun fun _ => rfl
theorem kit_rowT {K : PySem.W.Frag} : PySem.W.kitAny K (.type "tuple") (["list", "tuple"].map Value.type) = some true := kitAny_cons (b := false) (kit_ty (by decide +kernel)) (fun _ => kitAny_cons (b := true) (kit_ty (by decide +kernel)) nofun fun _ => rfl) nofun
section
variable {c : Ctx} {ρ : List SD} {n : Nat} {g : TG} {tk tv : TE} {t : TT} {vs : List Nat}
/-- a new thing of one's own changes -/
theorem Env.growAny {P : Hp} {L : List Addr} {n : Nat} {H : Hp} {σ : List (Option V)} {D : Addr} {u : HO} {Ls : List Addr} (E : Env c P L n H σ ρ) (hD : D ∈ L) (sl : Slots c.pr c.wd c.K (L ++ c.O) H σ ρ Ls) (sb : Ls.Sublist L) (hn : D ∉ Ls) : Env c P L n (upd H D u) σ ρ := by
  have hm : D ∈ L ++ c.O := List.mem_append_left _ hD
  have hB : D ∉ c.B := E.notB hD
  have hO : D ∉ c.O := (E.fresh D hD).2
  exact { nd := E.nd, fresh := E.fresh,
          slots := ⟨Ls, sl.move (fun l hl => upd_ne fun e => hn (e ▸ hl)) (by rw [hid_upd_in hm]; exact Same.refl _), sb⟩,
          lst := fun l hl => by
            by_cases e : l = D
            · exact ⟨_, by rw [e, upd_same]⟩
            · rw [upd_ne e]; exact E.lst l hl,
          bag := fun b q hb => (E.bag b q hb).move (fun o h => by rw [upd_ne fun e : b = D => hO (e ▸ (E.bO b q hb).1)]; exact h) fun o h => by rw [upd_ne fun e : q = D => hO (e ▸ (E.bO b q hb).2.1)]; exact h,
          base := fun a o h => by
            have h0 : c.H0 D = none := (E.fresh D hD).1
            have ne : a ≠ D := fun e => by
              rw [e, hid_some] at h
              rw [h0] at h
              cases h.2
            obtain ⟨h1, h2⟩ := hid_some.mp (E.base a o h)
            exact hid_some.mpr ⟨h1, by rw [upd_ne ne]; exact h2⟩,
          pers := by rw [hid_upd_in hm]; exact E.pers,
          bO := E.bO,
          al := fun o ho => by rw [upd_ne fun e : o = D => hO (e ▸ ho)]; exact E.al o ho }
/-- {k: v for ..} -/
theorem we_dc {wi : TI} {Φ : Nat → D → Prop} (h : WI c wi ρ n fun n1 ds => ∃ I : Nat → Nat → List (L2.Key × D) → Prop, I 0 n1 [] ∧
    (∀ k m acc d, ds[k]? = some d → I k m acc → WG c (RW vs) g d (wipeR ρ vs) m fun ρ2 => WT c t ρ2 m fun m2 b => if b = true then WE c tk ρ2 m2 fun m3 y => WE c tv ρ2 m3 fun m4 z => ∃ key, y = kD key ∧ acc.length < sizeLine ∧ I (k + 1) m4 (putKD acc key z) else I (k + 1) m2 acc) ∧
    (∀ m acc, I ds.length m acc → Φ m (.dct acc))) : WE c (tDc wi g t tk tv vs) ρ n Φ := fun P L σ H Q E q => by
  refine h P L σ H _ E fun J ds n1 H1 s1 j1 it ⟨I, h0, hs, hd⟩ => ?_
  intro D hD
  have E1 := (E.step s1 j1).pers'
  obtain ⟨Ls, sl, sb⟩ := E1.slots
  obtain ⟨Lw, slw, sbw⟩ := sl.wipe vs
  have Ew : Env c (hid (L ++ c.O) H1) L n1 H1 (wipe σ vs) (wipeR ρ vs) := E1.reslot slw (sbw.trans sb)
  have E2 := Ew.newAny (o := .dK []) hD
  have DnL : D ∉ L := (E1.new hD).2.2
  have DnO : D ∉ L ++ c.O := E1.noO D hD
  refine ⟨fun i m H' => m + i = ds.length ∧ ∃ n' xs acc, Env c (hid (L ++ c.O) H1) (D :: L) n' H' (wipe σ vs) (wipeR ρ vs) ∧ H' D = some (.dK xs) ∧ RpKs c.K (hid ((D :: L) ++ c.O) H') xs acc ∧ Same (hid c.B H1) (hid c.B H') ∧ I i n' acc, ⟨ds.length, rfl, n1, [], [], E2, upd_same, .nil, (E1.newT hD).1, h0⟩, ?_⟩
  rintro i m H' ⟨hm, n', xs, acc, E', hDx, hacc, sB, hI⟩
  by_cases hi : i < ds.length
  · right
    have hg : ds[i]? = some ds[i] := List.getElem?_eq_getElem hi
    obtain ⟨go, yl⟩ := it.go (D :: L) n' H' _ _ E' i _ hg
    refine ⟨go, fun H2 => ∃ n' xs acc, Env c (hid (L ++ c.O) H1) (D :: L) n' H2 (wipe σ vs) (wipeR ρ vs) ∧ H2 D = some (.dK xs) ∧ RpKs c.K (hid ((D :: L) ++ c.O) H2) xs acc ∧ Same (hid c.B H1) (hid c.B H2) ∧ I (i + 1) n' acc, ?_, ?_⟩
    · rintro H2 ⟨n2, xs2, acc2, a1, a2, a3, a4, a5⟩
      exact ⟨m - 1, by omega, by omega, n2, xs2, acc2, a1, a2, a3, a4, a5⟩
    · intro x H2 hy
      obtain ⟨sm, rx⟩ := yl x H2 hy
      have z := E'.same sm
      have E2' := E'.step z.1 z.2
      refine hs i n' acc _ hg hI _ (D :: L) _ H2 x _ E2' rx fun σ3 ρ3 E3 hw k3 => ?_
      refine ⟨hw.trans (wipe_idem σ vs), ?_⟩
      refine k3 _ (D :: L) σ3 H2 _ E3 fun b n4 H4 s4 j4 k4 => ?_
      have back : ∀ {H5 : Hp} {n5 : Nat}, Same (hid c.B H2) (hid c.B H5) → c.J n5 H5 → Env c (hid (L ++ c.O) H1) (D :: L) n5 H5 (wipe σ vs) (wipeR ρ vs) := fun s5 j5 => E2'.step s5 j5
      have own : ∀ {H5 : Hp}, Same (hid c.B H2) (hid c.B H5) → H5 D = some (.dK xs) := fun s5 => by
        rw [E2'.own s5 D List.mem_cons_self]
        exact sm D _ hDx
      have accs : ∀ {H5 : Hp}, Same (hid c.B H2) (hid c.B H5) → RpKs c.K (hid ((D :: L) ++ c.O) H5) xs acc := fun s5 => (hacc.mono (same_hid_of sm)).mono (E2'.sameLO s5)
      cases b with
      | false =>
        rw [if_neg Bool.false_ne_true] at k4 ⊢
        exact ⟨n4, xs, acc, back s4 j4, own s4, accs s4, (sB.trans z.1).trans s4, k4⟩
      | true =>
        rw [if_pos rfl] at k4 ⊢
        refine k4 _ (D :: L) σ3 H4 _ (E3.step s4 j4) fun y d n5 H5 s5 j5 r5 k5 => ?_
        refine k5 _ (D :: L) σ3 H5 _ ((E3.step s4 j4).step s5 j5) fun y2 d2 n6 H6 s6 j6 r6 ⟨key, ek, hz, k6⟩ => ?_
        subst ek
        have ey : y = kV key := by
          cases key with
          | inl i => cases r5; rfl
          | inr i => cases r5; rfl
        have s46 := (s4.trans s5).trans s6
        refine ⟨xs, key, ey, own s46, by rw [hacc.length]; exact hz, n6, putK xs key y2, putKD acc key d2, ?_, upd_same, ?_, ?_, k6⟩
        · have Eb := back s46 j6
          obtain ⟨Ls5, sl5, sb5⟩ := Eb.slots
          have e5 := sl5.inj slw
          subst e5
          exact Eb.growAny List.mem_cons_self sl5 sb5 fun q => DnL ((sbw.trans sb).subset q)
        · have hm : D ∈ (D :: L) ++ c.O := List.mem_append_left _ List.mem_cons_self
          rw [hid_upd_in hm]
          exact RpKs.put r6 (accs s46)
        · exact same_upd_old hD ((sB.trans z.1).trans s46)
  · left
    have e : i = ds.length := by omega
    subst e
    refine ⟨it.stop (D :: L) n' H' _ _ E' _ (Nat.le_refl _), ?_⟩
    exact q _ _ n' H' (s1.trans sB) E'.bag (.dct (.inl (by rw [hid_out DnO]; exact hDx)) (hacc.mono (same_hid_sub fun a ha => List.mem_cons_of_mem _ ha))) (hd n' acc hI)
end
theorem r2_dgetK {K : PySem.W.Frag} {Φ : D → Prop} {kvs : List (L2.Key × D)} {y : D} {k : L2.Key} {d : D} (hk : keyK y = some k) (hl : lookK kvs k = some d) (kk : Φ d) : R2D K (fun x y H2 Q => ∃ a v, x = .ref a ∧ DGet H2 a y (some v) ∧ Q v H2) (.dct kvs) y Φ := fun O H x z Q rx ry no q => by
  cases rx with
  | dct hs rk =>
    obtain ⟨v, hv, rv⟩ := rk.look.1 d hl
    exact ⟨_, v, rfl, .inl ⟨_, k, same_rd same_hid hs, keyK_V ry hk, hv.symm⟩, q v d H (Same.refl _) rv kk⟩
/-- a method as its callers see it -/
structure Mt (P : Program) (w : World) (K : PySem.W.Frag) (mg : Str → Option Value) (base : Heap) (C : Addr) (x : Str) (k : Nat) (ps : List Str) (S : L3.Spec) where
  f : Addr
  fd : FuncData
  cl : Cls K C
  me : Meth K C x f
  G : FnOk P w K mg base CX0 k f fd ps (spD K S)
  b : Binds K fd ps []
end L3
/-! L3z: errors over data: defs that raise, raise, try .. except .. as. -/
namespace L3
open PySem L2
/-! ### promises with errors -/
/-- wished of an error, told by its class and its fields -/
abbrev Er := Nat → List SD → Addr → List (Str × D) → Prop
def XA (c : Ctx) (W : WX) (Ξ : Er) : Prop :=
  ∀ P L n H σ ρ C dx fs ks, Env c P L n H σ ρ → H dx = some (.xd fs) → dx ∉ L ++ c.O → RpFs c.K (hid (L ++ c.O) H) fs ks → Ξ n ρ C ks → W (.ref C) (some dx) σ H
abbrev SpecX := Option (Addr × Addr) → Nat → List D → (Nat → D → Prop) → (Nat → Addr → List (Str × D) → Prop) → Prop
def spDX (K : PySem.W.Frag) (S : SpecX) : Sp := fun vs H Q E => ∃ (O : List Addr) (bag : Option (Addr × Addr)) (n : Nat) (ds : List D) (Φ : Nat → D → Prop) (Ξ : Nat → Addr → List (Str × D) → Prop),
  (∀ b q, bag = some (b, q) → BagOk b q n H ∧ b ∈ O ∧ q ∈ O ∧ q ≠ b) ∧ (∀ o ∈ O, H o ≠ none) ∧ RpAll K (hid O H) vs ds ∧ S bag n ds Φ Ξ ∧
  (∀ v d n' H', Same (hid (bagB bag) H) (hid (bagB bag) H') → (∀ b q, bag = some (b, q) → BagOk b q n' H') → Rp K (hid O H') v d → Φ n' d → Q v H') ∧
  ∀ C dx fs ks n' H', Same (hid (bagB bag) H) (hid (bagB bag) H') → (∀ b q, bag = some (b, q) → BagOk b q n' H') → H' dx = some (.xd fs) → dx ∉ O → RpFs K (hid O H') fs ks → Ξ n' C ks → E (.ref C) (some dx) H'
section
variable {P : Program} {w : World} {K : PySem.W.Frag} {mg : Str → Option Value} {base : Heap}
theorem env_start {O : List Addr} {bag : Option (Addr × Addr)} {n : Nat} {H : Hp} {vs : List V} {ds : List D} (N : List Str) (hb : ∀ b q, bag = some (b, q) → BagOk b q n H ∧ b ∈ O ∧ q ∈ O ∧ q ≠ b) (hO : ∀ o ∈ O, H o ≠ none) (r : RpAll K (hid O H) vs ds) :
    Env ⟨P, w, K, O, bag, H⟩ (fun _ => none) [] n H (L2.start N vs) (rho N ds) := by
  have e : L2.start N vs = vs.map some ++ List.replicate (N.length - ds.length) none := by unfold L2.start; rw [r.length]
  exact { nd := List.nodup_nil, fresh := (fun l hl => nomatch hl), slots := ⟨[], by rw [e]; exact slots_start r, List.Sublist.refl _⟩, lst := (fun l hl => nomatch hl), bag := fun b q e => (hb b q e).1, base := Same.refl _,
          pers := (fun _ _ e => nomatch e), bO := fun b q e => (hb b q e).2, al := hO }
/-- THE RULE for a def that may raise -/
theorem fn_DX {x qual : Str} {st : Stmt} {f : Addr} {fd : FuncData} {N ps : List Str} {k : Nat} {S : SpecX} (F : Fun K x qual st f fd) (sc : FnScope N ps (defScope st))
    (len : ∀ bag n ds Φ Ξ, S bag n ds Φ Ξ → ds.length = ps.length)
    (body : ∀ (cdv : Value) (A : Around) (outer : List PySem.Env) (s : Shared) (H : Hp) (E : XK) (O : List Addr) (bag : Option (Addr × Addr)) (n : Nat) (ds : List D) (Φ : Nat → D → Prop) (Ξ : Nat → Addr → List (Str × D) → Prop), Room k (A.deeper (PyProof.Rows.envOfC qual (defScope st) s.heap.objs.size f cdv)) → S bag n ds Φ Ξ →
      XA ⟨P, w, K, O, bag, H⟩ (fun cls d _ H' => E cls d H') (fun n' _ C ks => Ξ n' C ks) →
      ∃ t, PSs (cxOf (L2.CX P w) P w K mg base N qual (defScope st) f cdv A outer s H E) (defBody st) t ∧ WS ⟨P, w, K, O, bag, H⟩ t (rho N ds) n { nx := fun n' _ => Φ n' .non, rt := Φ }) :
    FnOk P w K mg base (L2.CX P w) (k + 1) f fd ps (spDX K S) := by
  refine F.okX sc (fun vs H Q E h => ?_) (fun cdv A outer s H vs Q E hr h => ?_)
  · obtain ⟨O, bag, n, ds, Φ, Ξ, _, _, r, hS, _⟩ := h
    rw [r.length]; exact len bag n ds Φ Ξ hS
  · obtain ⟨O, bag, n, ds, Φ, Ξ, hb, hO, r, hS, q, qx⟩ := h
    have hx : XA ⟨P, w, K, O, bag, H⟩ (fun cls d _ H' => E cls d H') (fun n' _ C ks => Ξ n' C ks) := fun P' L n' H' σ ρ C dx fs ks E' hd hn hf kk =>
      qx C dx fs ks n' H' E'.base (fun b q e => E'.bag b q e) hd (fun z => hn (List.mem_append_right _ z)) (hf.mono (same_hid_sub fun a ha => List.mem_append_right _ ha)) kk
    obtain ⟨t, ht, W⟩ := body cdv A outer s H E O bag n ds Φ Ξ hr hS hx
    refine ⟨t, ht, W (fun _ => none) [] _ H _ (env_start N hb hO r) ?_⟩
    exact { nx := fun L n' H' σ ρ E k => q .non .non n' H' E.base (fun b q e => E.bag b q e) .non k,
            rt := fun v d n' H' s j r k => q v d n' H' s j r k, bk := fun _ _ _ _ _ _ k => k.elim, ct := fun _ _ _ _ _ _ k => k.elim }
end
section
variable {c : Ctx} {ρ : List SD} {n : Nat} {te to : TE} {as : TA} {Φ : Nat → D → Prop} {W : WX} {Ξ : Er} {Ψ : Out}
theorem we_callX {S : SpecX} {dvs : List V} {dds : List D} (hw : XA c W Ξ) (hd : ∀ H, RpAll c.K H dvs dds) (h : WA c as ρ n fun n1 ds => S c.bag n1 (ds ++ dds) Φ fun n2 C ks => Ξ n2 ρ C ks) :
    WE c (tCallSD (spDX c.K S) dvs (fun σ => L2.WE W σ) as) ρ n Φ := fun P L σ H Q E q => by
  refine h P L σ H _ E fun vs ds n1 H1 s1 j1 r1 k => ?_
  have E1 := E.step s1 j1
  refine ⟨L ++ c.O, c.bag, n1, ds ++ dds, Φ, _, fun b q hb => ⟨j1 b q hb, List.mem_append_right _ (E.bO b q hb).1, List.mem_append_right _ (E.bO b q hb).2.1, (E.bO b q hb).2.2⟩, E1.alLO, r1.append (hd _), k,
    fun v d n2 H2 s2 j2 r2 k2 => q v d n2 H2 (s1.trans s2) j2 r2 k2, fun C dx fs ks n2 H2 s2 j2 hx hn hf kk => ?_⟩
  exact hw P L n2 H2 σ ρ C dx fs ks (E1.step s2 j2) hx hn hf kk
theorem we_methX {C : Addr} {m : Str} {S : SpecX} {dvs : List V} {dds : List D} {XE : XK} (hw : XA c (fun cls d _ H => XE cls d H) Ξ) (hd : ∀ H, RpAll c.K H dvs dds)
    (h : WE c to ρ n fun n1 x => ∃ ds, x = .obj C ds ∧ ds.lookup m = none ∧ WA c as ρ n1 fun n2 es => S c.bag n2 (.obj C ds :: (es ++ dds)) Φ fun n3 C ks => Ξ n3 ρ C ks) : WE c (tMeth C m (spDX c.K S) dvs XE to as) ρ n Φ := fun P L σ H Q E q => by
  refine h P L σ H _ E fun x d n1 H1 s1 j1 r1 ⟨ds, e, hn, ha⟩ => ?_
  subst e
  have E1 := E.step s1 j1
  cases r1 with
  | obj h1 hf =>
    refine ⟨_, _, _, rfl, (hid_some.mp h1).2, hf.none hn, ?_⟩
    refine ha P L σ H1 _ E1 fun vs es n2 H2 s2 j2 r2 k => ?_
    have E2 := E1.step s2 j2
    refine ⟨L ++ c.O, c.bag, n2, _, Φ, _, fun b q hb => ⟨j2 b q hb, List.mem_append_right _ (E.bO b q hb).1, List.mem_append_right _ (E.bO b q hb).2.1, (E.bO b q hb).2.2⟩, E2.alLO, .cons ((Rp.obj h1 hf).mono (E1.sameLO s2)) (r2.append (hd _)), k,
      fun v d n3 H3 s3 j3 r3 k3 => q v d n3 H3 ((s1.trans s2).trans s3) j3 r3 k3, fun C' dx fs ks n3 H3 s3 j3 hx hn hf kk => ?_⟩
    exact hw P L n3 H3 σ ρ C' dx fs ks (E2.step s3 j3) hx hn hf kk

/-! ### raise -/
theorem RpFs.append {K : PySem.W.Frag} {H : Hp} : ∀ {vs : List (Str × V)} {ds : List (Str × D)} {vs' : List (Str × V)} {ds' : List (Str × D)}, RpFs K H vs ds → RpFs K H vs' ds' → RpFs K H (vs ++ vs') (ds ++ ds')
  | _, _, _, _, .nil, r => r
  | _, _, _, _, .cons h t, r => .cons h (t.append r)
theorem RpFs.rev {K : PySem.W.Frag} {H : Hp} : ∀ {vs : List (Str × V)} {ds : List (Str × D)}, RpFs K H vs ds → RpFs K H vs.reverse ds.reverse
  | _, _, .nil => .nil
  | _, _, .cons h t => by
    rw [List.reverse_cons, List.reverse_cons]
    exact t.rev.append (.cons h .nil)
theorem rpfs_zip {K : PySem.W.Frag} {H : Hp} : ∀ {fs : List Str} {vs : List V} {ds : List D}, RpAll K H vs ds → RpFs K H (fs.zip vs) (fs.zip ds)
  | [], _, _, _ => .nil
  | _ :: _, _, _, .nil => .nil
  | _ :: _, _, _, .cons h t => .cons h (rpfs_zip t)
/-- an error's __init__ that keeps its arguments -/
def spXI (C : Addr) (fs : List Str) : Sp := fun vs H Q _ => ∃ (a : Addr) (ws : List V), vs = .ref a :: ws ∧ ws.length = fs.length ∧ H a = some (exo a C none) ∧
  ∀ (d : Addr) (H' : Hp), H d = none → H' a = some (exo a C (some d)) → H' d = some (exd d (fs.zip ws).reverse) → (∀ b, b ≠ a → b ≠ d → H' b = H b) → Q .non H'
theorem ws_raise {C : Addr} {fs : List Str} (hw : XA c W Ξ) (h : WA c as ρ n fun n1 ds => ds.length = fs.length ∧ fs.length ≤ 1000 ∧ Ξ n1 ρ C (fs.zip ds).reverse) :
    WS c (fun _ σ H => tMkO C (spXI C fs) [] as σ H fun cls d H' => W cls d σ H') ρ n Ψ := fun P L σ H Dn E A => by
  refine h P L σ H _ E fun vs ds n1 H1 s1 j1 r1 ⟨hl, hz, k⟩ => ?_
  have E1 := E.step s1 j1
  have hvl : vs.length = fs.length := r1.length.trans hl
  refine ⟨by omega, fun a ha => ⟨a, vs, by rw [List.append_nil], hvl, upd_same, fun d H' hd e1 e2 e3 => ?_⟩⟩
  have hda : d ≠ a := fun z => by
    rw [z, upd_same] at hd
    cases hd
  have hd1 : H1 d = none := by rw [upd_ne hda] at hd; exact hd
  refine ⟨rfl, d, _, e1, e2, hd1, ?_⟩
  have eH : upd (del H' a) d (.xd (fs.zip vs).reverse) = upd H1 d (.xd (fs.zip vs).reverse) := by
    funext b
    by_cases hb : b = d
    · rw [hb, upd_same, upd_same]
    · rw [upd_ne hb, upd_ne hb]
      by_cases hba : b = a
      · rw [hba, del_same, ha]
      · rw [del_ne hba, e3 b hba hb, upd_ne hba]
  rw [eH]
  have dO : d ∉ L ++ c.O := E1.noO d hd1
  have sm : Same H1 (upd H1 d (.xd (fs.zip vs).reverse)) := same_upd_new hd1
  obtain ⟨s2, j2⟩ := E1.same sm
  exact hw P L n1 _ σ ρ C d _ _ (E1.step s2 j2) upd_same dO ((rpfs_zip r1).rev.mono (same_hid_of sm)) k
end

/-! ### what is owned is hidden for a while -/
/-- one's own things put aside -/
def asd : SD → SD
  | .un => .un
  | .val d => .val d
  | _ => .un
section
variable {pr : Program} {wd : World} {K : PySem.W.Frag} {O : List Addr} {H : Hp}
theorem Slots.asd : ∀ {σ : List (Option V)} {ρ : List SD} {L : List Addr}, Slots pr wd K O H σ ρ L → Slots pr wd K O H σ (ρ.map L3.asd) []
  | _, _, _, .nil => .nil
  | _, _, _, .un s => .un s.asd
  | _, _, _, .val h s => .val h s.asd
  | _, _, _, .own _ _ s => .un s.asd
  | _, _, _, .dic _ s => .un s.asd
  | _, _, _, .dk _ s => .un s.asd
  | _, _, _, .tw _ s => .un s.asd
theorem Slots.gone : ∀ {σ : List (Option V)} {ρ : List SD} {L : List Addr} (i : Nat), Slots pr wd K O H σ ρ L → ∃ L', Slots pr wd K O H (σ.set i none) (ρ.set i .un) L' ∧ L'.Sublist L
  | _, _, _, _, .nil => ⟨[], .nil, List.Sublist.refl _⟩
  | _, _, _, 0, .un s => ⟨_, .un s, List.Sublist.refl _⟩
  | _, _, _, 0, .val _ s => ⟨_, .un s, List.Sublist.refl _⟩
  | _, _, _, 0, .own _ _ s => ⟨_, .un s, List.sublist_cons_self _ _⟩
  | _, _, _, 0, .dic _ s => ⟨_, .un s, List.sublist_cons_self _ _⟩
  | _, _, _, 0, .dk _ s => ⟨_, .un s, List.sublist_cons_self _ _⟩
  | _, _, _, 0, .tw _ s => ⟨_, .un s, List.sublist_cons_self _ _⟩
  | _, _, _, i + 1, .un s => by
    obtain ⟨L', h1, h2⟩ := Slots.gone i s
    exact ⟨L', .un h1, h2⟩
  | _, _, _, i + 1, .val h s => by
    obtain ⟨L', h1, h2⟩ := Slots.gone i s
    exact ⟨L', .val h h1, h2⟩
  | _, _, _, i + 1, .own h r s => by
    obtain ⟨L', h1, h2⟩ := Slots.gone i s
    exact ⟨_ :: L', .own h r h1, h2.cons_cons _⟩
  | _, _, _, i + 1, .dic h s => by
    obtain ⟨L', h1, h2⟩ := Slots.gone i s
    exact ⟨_ :: L', .dic h h1, h2.cons_cons _⟩
  | _, _, _, i + 1, .dk h s => by
    obtain ⟨L', h1, h2⟩ := Slots.gone i s
    exact ⟨_ :: L', .dk h h1, h2.cons_cons _⟩
  | _, _, _, i + 1, .tw h s => by
    obtain ⟨L', h1, h2⟩ := Slots.gone i s
    exact ⟨_ :: L', .tw h h1, h2.cons_cons _⟩
end
section
variable {c : Ctx} {P P' : Hp} {L L' : List Addr} {n n' : Nat} {H H' : Hp} {σ σ' : List (Option V)} {ρ ρ' : List SD}
theorem Env.unset (E : Env c P L n H σ ρ) (i : Nat) : Env c P L n H (σ.set i none) (ρ.set i .un) := by
  obtain ⟨Ls, sl, sb⟩ := E.slots
  obtain ⟨L', s, sub⟩ := sl.gone i
  exact E.reslot s (sub.trans sb)
/-- a new beginning at this heap -/
theorem Env.re (E : Env c P L n H σ ρ) : Env { c with O := L ++ c.O, H0 := H } (fun _ => none) [] n H σ (ρ.map asd) where
  nd := List.nodup_nil
  fresh := (fun l hl => nomatch hl)
  slots := by
    obtain ⟨Ls, sl, _⟩ := E.slots
    exact ⟨[], sl.asd, List.Sublist.refl _⟩
  lst := (fun l hl => nomatch hl)
  bag := E.bag
  base := Same.refl _
  pers := (fun _ _ e => nomatch e)
  bO := fun b q e => ⟨List.mem_append_right _ (E.bO b q e).1, List.mem_append_right _ (E.bO b q e).2.1, (E.bO b q e).2.2⟩
  al := E.alLO
/-- .. and back -/
theorem Env.back (E : Env c P L n H σ ρ) (E2 : Env { c with O := L ++ c.O, H0 := H } P' L' n' H' σ' ρ') : Env c P (L' ++ L) n' H' σ' ρ' where
  nd := by
    refine List.nodup_append.mpr ⟨E2.nd, E.nd, fun a ha b hb e => ?_⟩
    subst e
    exact (E2.fresh a ha).2 (List.mem_append_left _ hb)
  fresh := fun l hl => by
    rcases List.mem_append.mp hl with q | q
    · have w := E.new (show H l = none from (E2.fresh l q).1)
      exact ⟨w.1, w.2.1⟩
    · exact E.fresh l q
  slots := by
    obtain ⟨Ls, sl, sb⟩ := E2.slots
    refine ⟨Ls, ?_, sb.trans (List.sublist_append_left _ _)⟩
    rw [List.append_assoc]
    exact sl
  lst := fun l hl => by
    rcases List.mem_append.mp hl with q | q
    · exact E2.lst l q
    · obtain ⟨o, h⟩ := E.lst l q
      exact ⟨o, (hid_some.mp (E2.base l o (hid_some.mpr ⟨E.notB q, h⟩))).2⟩
  bag := E2.bag
  base := E.base.trans E2.base
  pers := fun a o h => by
    obtain ⟨h1, h2⟩ := hid_some.mp (E.pers a o h)
    refine hid_some.mpr ⟨fun q => ?_, (hid_some.mp (E2.base a o (hid_some.mpr ⟨fun q => h1 (E.BLO a q), h2⟩))).2⟩
    rw [List.append_assoc] at q
    rcases List.mem_append.mp q with q | q
    · have z : H a = none := (E2.fresh a q).1
      rw [h2] at z
      cases z
    · exact h1 q
  bO := E.bO
  al := fun o ho => E2.al o (List.mem_append_right _ ho)
/-- what was seen of the ground at the new beginning -/
theorem Env.old (E : Env c P L n H σ ρ) : Same (hid c.O c.H0) (hid (L ++ c.O) H) := fun a o h => by
  obtain ⟨h1, h2⟩ := hid_some.mp h
  refine hid_some.mpr ⟨fun q => ?_, (hid_some.mp (E.base a o (hid_some.mpr ⟨fun q => h1 (E.inO q), h2⟩))).2⟩
  rcases List.mem_append.mp q with q | q
  · have z := (E.fresh a q).1
    rw [h2] at z
    cases z
  · exact h1 q
theorem Acc.re {Ψ : Out} {Dn : Ends} (E : Env c P L n H σ ρ) (A : Acc c P Ψ Dn) {P2 : Hp} : Acc { c with O := L ++ c.O, H0 := H } P2 Ψ Dn where
  nx := fun L2 n2 H2 σ2 ρ2 E2 k => A.nx (L2 ++ L) n2 H2 σ2 ρ2 (E.back ({ E2 with pers := E2.pers } : Env { c with O := L ++ c.O, H0 := H } P2 L2 n2 H2 σ2 ρ2)) k
  rt := fun v d n2 H2 s j r k => A.rt v d n2 H2 (E.base.trans s) j (r.mono (same_hid_sub fun a ha => List.mem_append_right _ ha)) k
  bk := fun L2 n2 H2 σ2 ρ2 E2 k => A.bk (L2 ++ L) n2 H2 σ2 ρ2 (E.back E2) k
  ct := fun L2 n2 H2 σ2 ρ2 E2 k => A.ct (L2 ++ L) n2 H2 σ2 ρ2 (E.back E2) k
end

/-! ### try .. except X as e -/
/-- behind a suite the error's name is gone -/
def outU (Ψ : Out) (i : Nat) : Out := { nx := fun n ρ => Ψ.nx n (ρ.set i .un), rt := Ψ.rt, bk := fun n ρ => Ψ.bk n (ρ.set i .un), ct := fun n ρ => Ψ.ct n (ρ.set i .un) }
/-- an error that is held: its dict -/
structure Held (c : Ctx) (dx : Addr) (ks : List (Str × D)) : Prop where
  at_ : ∃ fs, c.H0 dx = some (.xd fs) ∧ RpFs c.K (hid c.O c.H0) fs ks
  out : dx ∉ c.O
section
variable {c : Ctx} {ρ : List SD} {n i : Nat} {Ψ : Out} {cl : Value} {tb : WX → TS} {ts : Addr → Value → Option Addr → TS} {Wout : WX} {Ξ : Er}
/-- the reading of a try with one clause -/
def tTry (K : PySem.W.Frag) (cl : Value) (i : Nat) (ts : Addr → Value → Option Addr → TS) (Wout : WX) (tb : WX → TS) : TS := fun D σ H => tb (wAs K cl i ts Wout D) D σ H
theorem ps_try {X : Cx} {x nm : Str} {c : Value} {i : Nat} {body suite : List Stmt} {b₀ : Stmt} {np pos pos' : Pos} {tb : WX → TS} {ts : Addr → Value → Option Addr → TS} {Wout : WX} {K : PySem.W.Frag} (hs : X.stack = X.env :: X.outer) (hf : X.env.frame = some X.env.locals) (hN : X.N.Nodup) (hi : X.N[i]? = some nm) (hln : X.env.kindOf nm = some .local) (hc : Names X x c) (tk : Takes X Wout)
    (hb : ∀ (W : WX) (pn : List (Addr × Obj)) (xe : Value → Shared → Prop), Takes (X.tr pn xe) W → PassesOwn (model X.prog X.w) X.A X.env xe → PSs (X.tr pn xe) body (tb W))
    (hsu : ∀ (a : Addr) (oe : Obj) (cls : Value) (d : Option Addr) (pn : List (Addr × Obj)), Zc cls d oe → (∃ vs, oe.data = .fields vs) → PSs (X.suite a ((a, oe) :: pn)) (b₀ :: suite) (ts a cls d)) (hK : X.K = K := by rfl) :
    PS X (.Try body [.ExceptHandler (some (.Name x np)) (some nm) (b₀ :: suite) pos'] [] [] pos) (tTry K c i ts Wout tb) := hK ▸ ps_try_as hs hf hN hi hln hc tk hb hsu
theorem ws_try
    (hb : ∀ O' H0', ∀ W, XA { c with O := O', H0 := H0' } W Ξ → WS { c with O := O', H0 := H0' } (tb W) (ρ.map asd) n Ψ)
    (hs : ∀ n' ρ' C ks, Ξ n' ρ' C ks → PySem.W.exmOne c.K (.ref C) cl = some true ∧ ∀ O' H0' dx a, Held { c with O := O', H0 := H0' } dx ks → WS { c with O := O', H0 := H0' } (ts a (.ref C) (some dx)) ((ρ'.map asd).set i (.val (.adr a))) n' (outU Ψ i)) :
    WS c (tTry c.K cl i ts Wout tb) ρ n Ψ := fun P L σ H Dn E A => by
  refine hb (L ++ c.O) H _ ?_ (fun _ => none) [] σ H Dn E.re (A.re E)
  intro P2 L2 n2 H2 σ2 ρ2 C dx fs ks E2 hx hn hf kk
  obtain ⟨he, hh⟩ := hs n2 ρ2 C ks kk
  refine ⟨true, he, fun _ a ha => ?_, fun z => nomatch z⟩
  have E3 : Env c P (L2 ++ L) n2 H2 σ2 ρ2 := E.back E2
  have E4 := E3.re
  have eO : (L2 ++ L) ++ c.O = L2 ++ (L ++ c.O) := List.append_assoc _ _ _
  have hd : Held { c with O := (L2 ++ L) ++ c.O, H0 := H2 } dx ks := ⟨⟨fs, hx, by rw [eO]; exact hf⟩, by rw [eO]; exact hn⟩
  refine hh _ _ dx a hd (fun _ => none) [] _ H2 _ (E4.set i (.adr a)) ?_
  exact { nx := fun L5 n5 H5 σ5 ρ5 E5 k => A.nx _ n5 H5 _ _ ((E3.back E5).unset i) k,
          rt := fun v d n5 H5 s j r k => A.rt v d n5 H5 (E3.base.trans s) j (r.mono (same_hid_sub fun a ha => List.mem_append_right _ ha)) k,
          bk := fun L5 n5 H5 σ5 ρ5 E5 k => A.bk _ n5 H5 _ _ ((E3.back E5).unset i) k,
          ct := fun L5 n5 H5 σ5 ρ5 E5 k => A.ct _ n5 H5 _ _ ((E3.back E5).unset i) k }
/-- e.f in the suite -/
theorem we_xf {C a dx : Addr} {f : Str} {ks : List (Str × D)} {te : TE} {Φ : Nat → D → Prop} (hd : Held c dx ks) (h : WE c te ρ n fun n1 x => x = .adr a ∧ ∃ d, ks.lookup f = some d ∧ Φ n1 d) : WE c (tXf a (.ref C) (some dx) C f te) ρ n Φ := fun P L σ H Q E q => by
  refine h P L σ H _ E fun x d n1 H1 s1 j1 r1 ⟨e, d2, hl, k⟩ => ?_
  subst e
  cases r1
  have E1 := E.step s1 j1
  obtain ⟨⟨fs, h1, h2⟩, ho⟩ := hd
  obtain ⟨v, hv, rv⟩ := (h2.mono E1.old).look hl
  exact ⟨rfl, rfl, dx, fs, v, rfl, (hid_some.mp (E1.old dx _ (hid_some.mpr ⟨ho, h1⟩))).2, hv, q v d2 n1 H1 s1 j1 rv k⟩
end

/-! ### errors' __init__ -/
/-- what the text says of AskedError: its __init__ is ValueError's -/
structure AskC (K : PySem.W.Frag) (C0 : Addr) : Prop where
  rd : PySem.W.readsIn K C0 (.type "type") = true
  ga : PySem.W.specialIn K (.ref C0) "__getattribute__" = some (some (.builtin "type.__getattribute__"))
  at_ : PySem.W.findCls K (.ref C0) (.type "type") "__init__" = some (.val (.builtin "ValueError.__init__"))
theorem pe_askinit {X : Cx} {x : Str} {C0 : Addr} {e : Expr} {es : List Expr} {ta : TA} {p1 p2 pos : Pos} {pl : Sem Bool} (hg : Gl X x) (hm : X.mg x = some (.ref C0)) (k : AskC X.K C0) (ha : PA X (e :: es) ta)
    (hdb : (x == ("__debug__" : Str)) = false := by decide)
    (hc : eval (.Call (.Attribute (.Name x p1) "__init__" p2) (e :: es) [] pos) X.env = (do
      let ov ← eval (.Name x p1) X.env
      standAt p2.atName
      let (f, first) ← holding [ov] (getMethod ov "__init__" pl)
      callWith pos f first (backTo pos (starEach (e :: es) X.env)) (backToKw pos (keywordEach [] X.env))) := by rfl)
    (he : starEach (e :: es) X.env = (false, eval e X.env) :: starEach es X.env := by rfl) (hpl : (backTo pos (starEach es X.env)).any (·.1) = false := by rfl) :
    PE X (.Call (.Attribute (.Name x p1) "__init__" p2) (e :: es) [] pos) (tVeI X.K ta) := by
  refine ⟨fun pins s σ H Q I h => ?_⟩
  refine PySem.W.methodCall_KW (ld_glob I hg hm ?_ hdb) hc
  refine PySem.W.method_cls I.kIn k.ga (PySem.W.cls_value I.kIn k.rd k.at_ (by decide +kernel) ?_)
  show wpAny _ _ (callWith pos (Value.builtin "ValueError.__init__") [] (backTo pos (starEach (e :: es) X.env)) []) _ _ _
  refine PyProof.Rows.callWith_method1 (thn (ha.run pos pins _ σ H _ (I.tok _) h) fun us s1 ⟨vs, H1, I1, r1, a, C, ws, ev, hl, T, ea, q⟩ => ?_) he hpl
  subst ev
  cases r1 with
  | @cons _ u0 _ ur ra rw' =>
    obtain rfl : u0 = Value.ref a := ra
    have hlen : ur.length ≤ sizeLine := by
      rw [← Paired.length rw', sizeLine_eq]
      omega
    exact oinit_ok T I1 ea hlen fun s' J => ⟨.non, H1, J, rfl, q⟩
section
variable {P : Program} {w : World} {K : PySem.W.Frag} {mg : Str → Option Value} {base : Heap}
/-- an error's __init__ that says X.__init__(self, 'text') and keeps two arguments -/
theorem xi2_go {C : Addr} {f1 f2 : Str} {t : Str} (T : OexC K C) (n1 : PySem.W.findIn K (.ref C) f1 = some none) (n2 : PySem.W.findIn K (.ref C) f2 = some none) {vs : List V} {H : Hp} {Q : VK} {E : XK} {D : Ends} (h : spXI C [f1, f2] vs H Q E) (hD : ∀ σ H', Q .non H' → D.nx σ H') (r : List (Option V)) :
    tSeq (tDrop (tVeI K (tCons (tVar 0) (tCons (tC (.str t)) tNil)))) (tSeq (tOst K f1 (tVar 0) (tVar 1)) (tOst K f2 (tVar 0) (tVar 2))) D (vs.map some ++ r) H := by
  obtain ⟨a, ws, rfl, hl, ha, q⟩ := h
  match ws, hl with
  | [y1, y2], _ =>
    refine ⟨_, rfl, a, C, _, rfl, by simp, T, ha, ?_⟩
    refine ⟨_, rfl, _, rfl, a, C, rfl, T, n1, .inl ⟨ha, fun dx hn hne => ?_⟩⟩
    refine ⟨_, rfl, _, rfl, a, C, rfl, T, n2, .inr ⟨dx, [(f1, y1)], upd_same, by rw [upd_ne hne, upd_same], Nat.le_of_ble_eq_true rfl, ?_⟩⟩
    refine hD _ _ (q dx _ hn ?_ upd_same fun b hb hb2 => ?_)
    · rw [upd_ne (Ne.symm hne), upd_same]
    · rw [upd_ne hb2, upd_ne hb, upd_ne hb2]
theorem xi1_go {C : Addr} {f1 : Str} {t : Str} (T : OexC K C) (n1 : PySem.W.findIn K (.ref C) f1 = some none) {vs : List V} {H : Hp} {Q : VK} {E : XK} {D : Ends} (h : spXI C [f1] vs H Q E) (hD : ∀ σ H', Q .non H' → D.nx σ H') (r : List (Option V)) :
    tSeq (tDrop (tVeI K (tCons (tVar 0) (tCons (tC (.str t)) tNil)))) (tOst K f1 (tVar 0) (tVar 1)) D (vs.map some ++ r) H := by
  obtain ⟨a, ws, rfl, hl, ha, q⟩ := h
  match ws, hl with
  | [y1], _ =>
    refine ⟨_, rfl, a, C, _, rfl, by simp, T, ha, ?_⟩
    refine ⟨_, rfl, _, rfl, a, C, rfl, T, n1, .inl ⟨ha, fun dx hn hne => ?_⟩⟩
    refine hD _ _ (q dx _ hn upd_same ?_ fun b hb hb2 => ?_)
    · rw [upd_ne hne, upd_same]
      rfl
    · rw [upd_ne hb, upd_ne hb2]
end
/-! ### own lists: x = y.pop() -/
section
variable {X : Cx} {K : PySem.W.Frag}
theorem x_bm0 {o : Expr} {to : TE} {name : Str} {apos cpos : Pos} {T : String} {r : V → List V → Hp → VK → Prop} (h : PE X (.Call (.Attribute o name apos) [] [] cpos) (tBM0 X.K T r to)) (hK : X.K = K := by rfl) : PE X (.Call (.Attribute o name apos) [] [] cpos) (tBM0 K T r to) := hK ▸ h
end
theorem ws_popSet {c : Ctx} {ρ : List SD} {n : Nat} {Ψ : Out} {i j : Nat} {es : List D} {y : D} (h1 : ρ[j]? = some (.own es)) (hy : es[es.length - 1]? = some y) (k : Ψ.nx n ((ρ.set j (.own es.dropLast)).set i (.val y))) :
    WS c (tAsg (tBM0 c.K "list" rPop (tVar j)) (gName i)) ρ n Ψ := fun P L σ H Dn E A => by
  obtain ⟨m, ys, b1, b2, b3, b4⟩ := E.own_at h1
  obtain ⟨u, hu, ru⟩ := b3.get' hy
  refine ⟨.ref m, b1, .inl ⟨rfl, ys, .inl (.inl b2)⟩, m, ys, u, rfl, rfl, b2, by rw [b3.length]; exact hu, ?_⟩
  have hd : RpAll c.K (hid (L ++ c.O) H) ys.dropLast es.dropLast := by
    rw [List.dropLast_eq_take, List.dropLast_eq_take, b3.length]
    exact b3.take _
  have E2 := (b4 ys.dropLast es.dropLast hd).1
  obtain ⟨m'', ys'', f1, f2, f3, f4⟩ := E.pers'.own_at h1
  rw [b1] at f1
  cases f1
  have E2p := (f4 ys.dropLast es.dropLast hd).1.pers
  exact A.nx L n _ _ _ (E2.set i (ru.mono E2p)) k

/-! ### as callers see them -/
/-- a def that may raise -/
structure Dx (P : Program) (w : World) (K : PySem.W.Frag) (mg : Str → Option Value) (base : Heap) (x : Str) (k : Nat) (ps : List Str) (S : L3.SpecX) where
  f : Addr
  fd : FuncData
  G : FnOk P w K mg base (L2.CX P w) k f fd ps (spDX K S)
  m : mg x = some (.ref f)
  k : PySem.W.keepIn K (.ref f) = true
  b : Binds K fd ps []
/-- a method that may raise -/
structure Mx (P : Program) (w : World) (K : PySem.W.Frag) (mg : Str → Option Value) (base : Heap) (C : Addr) (x : Str) (k : Nat) (ps : List Str) (S : L3.SpecX) where
  f : Addr
  fd : FuncData
  cl : Cls K C
  me : Meth K C x f
  G : FnOk P w K mg base (L2.CX P w) k f fd ps (spDX K S)
  b : Binds K fd ps []
/-- an own error: X.__init__ keeps its arguments as the fields fs -/
structure Xn (P : Program) (w : World) (K : PySem.W.Frag) (mg : Str → Option Value) (base : Heap) (x : Str) (fs : List Str) where
  C : Addr
  fI : Addr
  fd : FuncData
  ps : List Str
  T : OexC K C
  iC : PySem.W.findIn K (.ref C) "__init__" = some (some (.ref fI))
  tI : PySem.W.typeIn K (.ref fI) = some (.type "function")
  G : FnOk P w K mg base CX0 1 fI fd ps (spXI C fs)
  b : Binds K fd ps []
  m : mg x = some (.ref C)
  xf : XfC K C
  no : ∀ f ∈ fs, PySem.W.findIn K (.ref C) f = some none
  te : PySem.W.exmOne K (.ref C) (.ref C) = some true
theorem exm_self {K : PySem.W.Frag} {S : Addr} (h1 : PySem.W.subIn K (.ref S) (.type "BaseException") = some true) (h2 : PySem.W.isClsIn K S = true) (h3 : PySem.W.typeIn K (.ref S) = some (.type "type")) (h4 : PySem.W.subIn K (.ref S) (.ref S) = some true) :
    PySem.W.exmOne K (.ref S) (.ref S) = some true := by
  have e1 : (PySem.W.subIn K (.ref S) (.type "BaseException") == some true) = true := by rw [h1] <;> rfl
  have e2 : ((PySem.W.clsIn K S).isSome && PySem.W.typeIn K (.ref S) == some (.type "type")) = true := by
    have h2' : (PySem.W.clsIn K S).isSome = true := h2
    rw [h2', h3] <;> rfl
  show (if (PySem.W.subIn K (.ref S) (.type "BaseException") == some true) = true then (if ((PySem.W.clsIn K S).isSome && PySem.W.typeIn K (.ref S) == some (.type "type")) = true then PySem.W.subIn K (.ref S) (.ref S) else none) else none) = some true
  rw [if_pos e1, if_pos e2]
  exact h4
end L3
/-! L4a: unpacked lists, own ==, __init__ that may raise, a second bag, is of bools. -/
namespace PySem
namespace UnL
open PyProof.Rows PySem.Spec
section
variable {prog : Program} {w : World} {A : Around} {E : Value → Shared → Prop} {s : Shared}
theorem draw_list {it l : Addr} {items : Array Value} (hne : l ≠ it) : ∀ (n i : Nat) (s : Shared) (Q : List Value → Shared → Prop), s.heap.IsListIter it l i → s.heap.IsList l items → i + n ≤ items.size →
    (∀ h', h'.IsListIter it l (i + n) → Heap.SameBut it s.heap h' → Q ((items.toList.drop i).take n) { s with heap := h' }) → wpAny (model prog w) A (draw (.ref it) n) Q E s
  | 0, i, s, Q, hit, _, _, hQ => by
    show wpAny _ _ (pure []) Q E s
    exact wpAny_pure (by simpa using hQ s.heap hit (Heap.SameBut.refl ..))
  | n + 1, i, s, Q, hit, ht, hle, hQ => by
    have hlt : i < items.size := by omega
    show wpAny _ _ (pyNext (.ref it) >>= _) Q E s
    refine wpAny_bind (wpAny_pyNext_list_item hit ht (x := items[i]) (by simp [hlt]) fun h₁ hit₁ hs₁ => ?_)
    refine wpAny_bind (wpAny_holding (draw_list hne n (i + 1) _ _ hit₁ (ht.extBut hs₁.extBut hne) (by omega) fun h₂ hit₂ hs₂ => wpAny_pure ?_))
    have hd : items.toList.drop i = items[i] :: items.toList.drop (i + 1) := by simp [List.drop_eq_getElem_cons, hlt]
    have := hQ h₂ (by rw [show i + (n + 1) = i + 1 + n by omega]; exact hit₂) (hs₁.trans hs₂)
    rw [hd, List.take_succ_cons] at this
    exact this
theorem unpackItems_list {l : Addr} {items : Array Value} {Q : List Value → Shared → Prop} (hh : A.handled = none) (ht : s.heap.IsList l items)
    (hQ : ∀ h', Heap.ExtBut s.heap.objs.size s.heap h' → Q items.toList { s with heap := h' }) : wpAny (model prog w) A (unpackItems (.ref l) items.size none) Q E s := by
  have hlt : l ≠ s.heap.objs.size := by obtain ⟨o, ho, _⟩ := ht; exact Nat.ne_of_lt (Heap.lt_size ho)
  unfold unpackItems
  refine wpAny_bind ?_
  · unfold notIterableAtAll
    refine wpAny_bind (wpAny_specialOf ht.typeIs F.slot_list_iter.lookup ?_)
    refine wpAny_pure ?_
    simp only [Bool.false_eq_true, if_false]
    refine wpAny_bind (wpAny_holding (wpAny_pyIter_list ht ?_))
    refine wpAny_bind (wpAny_holding (draw_list hlt items.size 0 _ _ ⟨_, Heap.get?_push_size _ rfl, rfl, rfl⟩ (ht.push _) (by omega) fun h₁ hit₁ hs₁ => ?_))
    have hall : List.take items.size (List.drop 0 items.toList) = items.toList := by
      rw [List.drop_zero]; exact List.take_of_length_le (by simp)
    rw [hall]
    rw [if_neg (by simp)]
    have ht₁ : h₁.IsList l items := (ht.push _).extBut hs₁.extBut hlt
    refine wpAny_bind (wpAny_holding (wpAny_pyNext_list_end hh hit₁ ht₁ (by simp) fun h₂ he₂ => ?_))
    simp only [Option.isSome_none, Bool.false_eq_true, if_false]
    refine wpAny_pure (hQ h₂ fun b o hb e => he₂ b o hb (hs₁.extBut b o hb (Heap.get?_push_of_some _ e)))
theorem assign_Tuple_list {env : Env} {elts : List Expr} {x1} {pos : Pos} {l : Addr} {items : Array Value} {Q : Unit → Shared → Prop} (hh : A.handled = none) (ht : s.heap.IsList l items)
    (hn : (assignEach elts env).length = items.size) (hstar : (assignEach elts env).findIdx? (·.1) = none)
    (h : ∀ h', Heap.ExtBut s.heap.objs.size s.heap h' → wpAny (model prog w) A (assignInOrder ((assignEach elts env).map (·.2)) items.toList) Q E { s with heap := h' }) :
    wpAny (model prog w) A (assign (.Tuple elts x1 pos) env (.ref l)) Q E s := by
  rw [assign_Tuple]
  refine wpAny_bind (wpAny_standAt ?_)
  unfold unpack
  rw [hn, hstar]
  exact wpAny_bind (wpAny_holding (unpackItems_list hh ht h))
end
end UnL
end PySem
namespace L3
open PySem L2
/-! ### (a, b, ..) = a tuple or a list -/
def gSeqU (K : PySem.W.Frag) (n : Nat) (t : TGs) : TG := fun v σ H Q => ∃ a xs, v = .ref a ∧ (SqT K H a xs ∨ SqL K H a xs) ∧ xs.length = n ∧ t xs σ H Q
theorem pg_seqU {X : Cx} {es : List Expr} {k : Nat} {t : TGs} {n : Nat} {pos : Pos} {K : PySem.W.Frag} (hc : X.calm = true) (h : PGs X es t) (hK : X.K = K := by rfl)
    (hn : (assignEach es X.env).length = n := by rfl) (hst : (assignEach es X.env).findIdx? (·.1) = none := by rfl) : PG X (.Tuple es k pos) (gSeqU K n t) := by
  subst hK
  refine ⟨fun pins s σ H v u Q I r hw => ?_⟩
  obtain ⟨a, xs, e1, hq, hl, hw⟩ := hw
  subst e1
  cases r
  rcases hq with hq | hq
  · obtain ⟨its, rv, ht, hz⟩ := I.tuple hq
    refine PyProof.Rows.assign_Tuple_tuple (I.ok.hd hc) ht (by simp [hn, ← hl, rv.length]) hst fun h' hx => ?_
    have I1 : Inv X pins σ H { s with heap := h' } := I.kept (t' := s.toks) fun b o e => hx b o (Nat.ne_of_lt (Heap.lt_size e)) e
    exact h.run pins _ σ H xs _ Q I1 (by simpa using rv) hw
  · obtain ⟨its, rv, ht, hz⟩ := I.list hq
    refine PySem.UnL.assign_Tuple_list (I.ok.hd hc) ht.isList (by simp [hn, ← hl, rv.length]) hst fun h' hx => ?_
    have I1 : Inv X pins σ H { s with heap := h' } := I.kept (t' := s.toks) fun b o e => hx b o (Nat.ne_of_lt (Heap.lt_size e)) e
    exact h.run pins _ σ H xs _ Q I1 (by simpa using rv) hw
theorem wg_seqU {c : Ctx} {ρ : List SD} {n : Nat} {R : ER → ER → Prop} {m : Nat} {gs : TGs} {d : D} {ds : List D} {Φ : List SD → Prop} (hs : seqD d = some ds) (hl : ds.length = m) (h : WGs c R gs ds ρ n Φ) : WG c R (gSeqU c.K m gs) d ρ n Φ := fun P L σ H v Q E r q => by
  cases d with
  | tup xs =>
    cases hs
    cases r with
    | tup hs ha => exact ⟨_, _, rfl, .inl (same_t same_hid hs), by rw [ha.length]; exact hl, h P L σ H _ Q E ha q⟩
  | lst xs =>
    cases hs
    cases r with
    | lst hs ha => exact ⟨_, _, rfl, .inr (.inl (same_rd same_hid hs)), by rw [ha.length]; exact hl, h P L σ H _ Q E ha q⟩
  | _ => cases hs
end L3
/-! ### == and != of instances by their own __eq__ -/
namespace OwnNe
open PySem PySem.Spec PyProof.Rows PySem.SeqAt
section
variable {M : Model} {prog : Program} {w : World} {A : Around} {E : Value → Shared → Prop} {s : Shared} {K : PySem.W.Frag} {x C f : Addr} {ox : Obj} {od : Option Obj} {b : Value}
theorem ifBound_objNe {args : List Value} {Q : Option Value → Shared → Prop} (X : K.In s.heap) (I : PySem.W.InstAt s.heap x ox C od) (hs : PySem.W.findIn K (.ref C) "__ne__" = some (some (.builtin "object.__ne__")))
    (h : wpAny M A (call (.builtin "object.__ne__") (.ref x :: args)) (fun v => Q (some v)) E s) : wpAny M A (callSpecialIfBound? (.ref x) "__ne__" args) Q E s := by
  simp only [callSpecialIfBound?, bindSpecialIfBound?]
  refine wpAny_holding (wpAny_bind (wpAny_bind (wpAny_bind (I.type.here ((PySem.W.looks_findIn X hs).here ?_)))))
  refine wpAny_bind (wpAny_askSetting (wpAny_ite ?_))
  have fin : wpAny M A (call (.builtin "object.__ne__") ([.ref x] ++ args) >>= fun v => pure (some v)) Q E s := wpAny_bind (wpAny_mono h (fun v s' h' => wpAny_pure h') fun _ _ h' => h')
  split
  · exact wpAny_bind (wpAny_of_eq (F.cmp_object.ne.bind _) (wpAny_pure (by exact fin)))
  · exact wpAny_tryCatch (wpAny_bind (wpAny_of_eq (F.cmp_object.ne.bind _) (wpAny_pure (by exact fin))))
theorem objNe_entry {Q : Fin → Shared → Prop} (hu : A.units < cLine)
    (hcall : wpAny (model prog w) A (callSpecialIfBound? (.ref x) "__eq__" [b]) (fun r s' => ∃ k, r = some (.bool k) ∧ Q (.done (.ret (.bool (!k)))) s') E s) :
    wpAny (model prog w) A (Builtin.«object.__ne__» ⟨[.ref x, b], []⟩) Q E s := by
  unfold Builtin.«object.__ne__»
  repeat (first
    | with_reducible refine wpAny_cRoomFor hu ?_
    | (refine wpAny_bind (m := callSpecialIfBound? (.ref x) (Str.ofString "__eq__") [b])
        (wpAny_mono hcall (fun r s' hr => by
          obtain ⟨k, rfl, hq⟩ := hr
          repeat (first | exact hq | exact wpAny_pure hq | exact wpAny_truthy_bool hq | (refine wpAny_bind (m := truthy (.bool _)) (wpAny_truthy_bool ?_)) | wp_step)) fun _ _ e => e))
    | wp_step)
theorem ne_K {y : Addr} {Q : Value → Shared → Prop} (hu : A.units + 1 < cLine) (X : K.In s.heap) (I : PySem.W.InstAt s.heap x ox C od) (hb : PySem.W.Looks (model prog w) s.heap (typeOf (.ref y)) (.ref C)) (hm : PySem.W.mroIn K C (.type "object") = some true)
    (hs : PySem.W.findIn K (.ref C) "__ne__" = some (some (.builtin "object.__ne__"))) (he : PySem.W.findIn K (.ref C) "__eq__" = some (some (.ref f))) (hf : PySem.W.isFn K (.ref f) = true)
    (h : wpAny (model prog w) A.in1 (call (.ref f) [.ref x, .ref y]) (fun v s' => ∃ k, v = .bool k ∧ Q (.bool (!k)) s') E s) : wpAny (model prog w) A (richCompare .NotEq (.ref x) (.ref y)) Q E s := by
  have one : wpAny (model prog w) A (tryCompare (.ref x) "__ne__" (.ref y)) (fun r s' => ∃ v, r = some v ∧ Q v s') E s := by
    unfold tryCompare
    refine wpAny_bind (ifBound_objNe X I hs (wpAny_call (codeAny_call_builtin F.cmp_object.ne.plain F.cmpEntry_ne (PySem.W.check_slot F.cmpKind_ne F.cmpSplit_ne (I.type.andThen (PySem.W.looks_mroIn X hm)) (F.cmpArgs_ne _ _)
      (objNe_entry (A := A.in1) hu (PySem.W.ifBound_K X I he hf (wpAny_mono h (fun v s' hv => ?_) fun _ _ e => e)))))))
    obtain ⟨k, rfl, hq⟩ := hv
    exact ⟨k, rfl, wpAny_pure ⟨_, rfl, hq⟩⟩
  unfold richCompare
  simp only [oneThing_ref]
  refine wpAny_holding (wpAny_bind (wpAny_cRoomFor (by omega) ?_))
  refine wpAny_bind (I.type.here (wpAny_bind (hb.here ?_)))
  rw [cmpInfo_NotEq]
  dsimp only
  rw [show (Value.ref C != Value.ref C) = false from by simp]
  simp only [Bool.false_eq_true, if_false]
  refine wpAny_bind (wpAny_pure ?_)
  simp only [Bool.false_eq_true, if_false]
  refine wpAny_bind (wpAny_mono one (fun r s' z => ?_) fun _ _ e => e)
  obtain ⟨v, rfl, hq⟩ := z
  exact wpAny_pure hq
end
end OwnNe
namespace L3
open PySem L2
section
variable {X : Cx} {CX : CXT} {n : Nat} {C f : Addr} {fd : FuncData} {ps : List Str} {sp : Sp} {E : XK} {K : PySem.W.Frag}
/-- what the text says of a class with its own == -/
structure OwnEqT (K : PySem.W.Frag) (C f : Addr) : Prop where
  eq : PySem.W.findIn K (.ref C) "__eq__" = some (some (.ref f))
  fn : PySem.W.isFn K (.ref f) = true
  ne : PySem.W.findIn K (.ref C) "__ne__" = some (some (.builtin "object.__ne__"))
  mro : PySem.W.mroIn K C (.type "object") = some true
/-- x == y (neg: x != y), both instances of the class at C -/
def rOwn (C : Addr) (sp : Sp) (E : XK) (neg : Bool) : R2 := fun x y H Q => ∃ a b dx dy fs gs, x = .ref a ∧ y = .ref b ∧ H a = some (.ins C dx fs) ∧ H b = some (.ins C dy gs) ∧
  sp [.ref a, .ref b] H (fun v H' => ∃ k, v = .bl k ∧ Q (.bl (if neg then !k else k)) H') E
theorem own_run {A : Around} {pins : List (Addr × Obj)} {σ : L2.St} {H : Hp} {s : Shared} {a b : Addr} {Q : VK} (F : FnOk X.prog X.w X.K X.mg X.base CX n f fd ps sp) (hr : Room n A) (hfr : A.frames = X.A.frames) (hb : Binds X.K fd ps []) (hx : Passes CX X E) (I : Inv X pins σ H s) (h : sp [.ref a, .ref b] H Q E) :
    wpAny (model X.prog X.w) A (call (.ref f) [.ref a, .ref b]) (EP X pins σ Q) X.xe s := by
  have e0 : Env0 X.prog X.w X.K X.mg X.base A X.stack s H := by
    have e := I.env0
    exact ⟨by rw [hfr]; exact e.frames, e.mod, e.bs, e.bsz, e.funs, e.frf, e.hok, e.bare⟩
  have hl := F.len _ _ _ _ h
  have r2 : Vals [V.ref a, V.ref b] [Value.ref a, Value.ref b] := .cons rfl (.cons rfl .nil)
  refine wpAny_call (codeAny_mono (F.run A X.stack s H ⟨[.ref a, .ref b], []⟩ [.ref a, .ref b] [.ref a, .ref b] _ E hr e0 (by
    have := hb s [.ref a, .ref b] I.kIn (by simpa using hl)
    simpa using this) r2 h) fun r s' hq => ?_)
  cases r with
  | error e => exact hx pins σ H s e s' I hq
  | ok fl =>
    cases fl with
    | ret w => exact I.after hq
    | next => exact False.elim hq
    | brk => exact False.elim hq
    | cont => exact False.elim hq
theorem op_ownEq (F : FnOk X.prog X.w X.K X.mg X.base CX n f fd ps sp) (T : OwnEqT X.K C f) (hr : Room n X.A) (hb : Binds X.K fd ps []) (hx : Passes CX X E) : OpR X (compareOp .Eq) (rOwn C sp E false) := by
  intro pins s σ H x y v u Q I rx ry hq
  obtain ⟨a, b, dx, dy, fs, gs, rfl, rfl, ha, hb', h⟩ := hq
  cases rx
  cases ry
  obtain ⟨mA, J, _⟩ := ins_get I.hok ha
  obtain ⟨mB, J', _⟩ := ins_get I.hok hb'
  obtain ⟨od, J, _⟩ := J.look
  obtain ⟨od', J', _⟩ := J'.look
  obtain ⟨m, hF⟩ := I.fr
  show wpAny (model X.prog X.w) X.A (richCompare .Eq (.ref a) (.ref b)) (EP X pins σ Q) X.xe s
  refine PySem.W.cmp_K (op := .Eq) (tb := .ref C) hr.units0 hF I.ok.mod.kin J J'.type (by simp [PySem.W.notFirst]) T.eq T.fn (wpAny_mono (own_run F hr rfl hb hx I h) (fun r s' z => ?_) fun _ _ e => e)
  obtain ⟨v, H', I', rv, k, ek, q⟩ := z
  subst ek
  cases rv
  exact ⟨.bl k, H', I', rfl, q⟩
theorem op_ownNe (F : FnOk X.prog X.w X.K X.mg X.base CX n f fd ps sp) (T : OwnEqT X.K C f) (hr : Room (n + 1) X.A) (hb : Binds X.K fd ps []) (hx : Passes CX X E) : OpR X (compareOp .NotEq) (rOwn C sp E true) := by
  intro pins s σ H x y v u Q I rx ry hq
  obtain ⟨a, b, dx, dy, fs, gs, rfl, rfl, ha, hb', h⟩ := hq
  cases rx
  cases ry
  obtain ⟨mA, J, _⟩ := ins_get I.hok ha
  obtain ⟨mB, J', _⟩ := ins_get I.hok hb'
  obtain ⟨od, J, _⟩ := J.look
  obtain ⟨od', J', _⟩ := J'.look
  show wpAny (model X.prog X.w) X.A (richCompare .NotEq (.ref a) (.ref b)) (EP X pins σ Q) X.xe s
  refine OwnNe.ne_K (by have := hr.un; omega) I.kIn J J'.type T.mro T.ne T.eq T.fn (wpAny_mono (own_run F hr.in1 rfl hb hx I h) (fun r s' z => ?_) fun _ _ e => e)
  obtain ⟨v, H', I', rv, k, ek, q⟩ := z
  subst ek
  cases rv
  exact ⟨k, rfl, .bl (!k), H', I', rfl, q⟩
end
section
variable {K : PySem.W.Frag} {C : Addr} {S : L3.Spec} {E : XK} {neg : Bool} {Φ : D → Prop}
theorem r2_own {ks ls : List (Str × D)} (h : S none 0 [.obj C ks, .obj C ls] fun _ r => ∃ b, r = .bl b ∧ Φ (.bl (if neg then !b else b))) : R2D K (rOwn C (spD K S) E neg) (.obj C ks) (.obj C ls) Φ := fun O H x y Q rx ry no q => by
  cases rx with
  | obj h1 f1 =>
    cases ry with
    | obj h2 f2 =>
      refine ⟨_, _, _, _, _, _, rfl, rfl, (hid_some.mp h1).2, (hid_some.mp h2).2, O, none, 0, _, _, (fun b q e => nomatch e), (fun o ho e => no o e ho), .cons (.obj h1 f1) (.cons (.obj h2 f2) .nil), h, fun v d n' H' s j r ⟨b, e, k⟩ => ?_⟩
      subst e
      cases r
      have s' : Same H H' := by
        have z : Same (hid [] H) (hid [] H') := s
        rw [hid_nil, hid_nil] at z
        exact z
      exact ⟨b, rfl, q _ _ H' s' (.bl _) k⟩
theorem r2_isB {a b : Bool} (k : Φ (.bl (decide (a = b)))) : R2D K L2.rIsB (.bl a) (.bl b) Φ := fun O H x y Q rx ry _ q => by
  cases rx; cases ry
  exact ⟨a, b, rfl, rfl, q _ _ H (Same.refl _) (.bl _) k⟩
end
/-! ### makes and methods where what is raised is wished for at the caller's slots -/
def tMakeSD (C : Addr) (sp : Sp) (dvs : List V) (E : L2.St → XK) (t : TA) : TE := fun σ H Q => t σ H fun vs H1 => ∀ x dx, H1 x = none → H1 dx = none → dx ≠ x →
  sp (.ref x :: (vs ++ dvs)) (upd (upd H1 dx (.own x)) x (.ins C dx [])) (fun v H2 => v = .non ∧ Q (.ref x) H2) (E σ)
def tMethSD (C : Addr) (m : Str) (sp : Sp) (dvs : List V) (E : L2.St → XK) (ta : TE) (t : TA) : TE := fun σ H Q => ta σ H fun x H1 => ∃ a dx fs, x = .ref a ∧ H1 a = some (.ins C dx fs) ∧ fs.lookup m = none ∧
  t σ H1 fun vs H2 => sp (x :: (vs ++ dvs)) H2 Q (E σ)
section
open PyProof.Rows PySem.Spec
variable {X : Cx} {CX : CXT} {k : Nat} {C f : Addr} {fd : FuncData} {ps : List Str} {sp : Sp} {dvs : List V} {ds : List Value} {E : L2.St → XK} {x m : Str} {p pos apos : Pos} {o e : Expr} {es : List Expr} {t : TA} {ta : TE} {pl : Sem Bool}
/-- what goes out of __init__ is wished for where the instance stands by -/
def PassesMk (CX : CXT) (X : Cx) (σ : L2.St) (E : XK) : Prop := PassesAt CX X σ E
theorem pe_makeSD (M : Mk X.K C f) (F : FnOk X.prog X.w X.K X.mg X.base CX k f fd ps sp) (hr : Room (k + 1) X.A) (hg : Gl X x) (hm : X.mg x = some (.ref C)) (hb : Binds X.K fd ps ds) (hd : Vals dvs ds) (hx : ∀ σ, PassesAt CX X σ (E σ))
    (ha : PA X (e :: es) t) (hdb : (x == ("__debug__" : Str)) = false := by decide) (he : starEach (e :: es) X.env = (false, eval e X.env) :: starEach es X.env := by rfl) (hpl : (backTo pos (starEach es X.env)).any (·.1) = false := by rfl) :
    PE X (.Call (.Name x p) (e :: es) [] pos) (tMakeSD C sp dvs E t) := by
  refine ⟨fun pins s σ H Q I h => ?_⟩
  refine wpAny_Call_Name_kw (ld_glob I hg hm ?_ hdb)
  refine PySem.W.callWith_K (h₀ := X.base) I.ok.mod.kin M.kp (thn (ha.run pos pins s σ H _ I h) fun us s1 ⟨vs, H1, I1, r, q⟩ => ⟨I1.kIn, ?_⟩) he hpl
  have hq := q (s1.heap.objs.size + 1) s1.heap.objs.size (I1.hok.fresh (Nat.le_succ _)) (I1.hok.fresh (Nat.le_refl _)) (Nat.ne_of_lt (Nat.lt_succ_self _))
  have I2 := Inv.made (C := C) I1
  have r2 : Vals (V.ref (s1.heap.objs.size + 1) :: (vs ++ dvs)) (Value.ref (s1.heap.objs.size + 1) :: (us ++ ds)) := .cons rfl (r.append hd)
  have hl : (Value.ref (s1.heap.objs.size + 1) :: us ++ ds).length = ps.length := by
    have e := r2.length
    rw [F.len _ _ _ _ hq] at e
    exact e.symm
  show wpAny _ _ (call (.ref C) us) _ _ _
  refine wpAny_call (make_map (f := f) I1.kIn M.makes M.init (beq_iff_eq.mp M.fn) (codeAny_mono (F.run _ X.stack _ _ ⟨Value.ref (s1.heap.objs.size + 1) :: us, []⟩ (Value.ref (s1.heap.objs.size + 1) :: (us ++ ds)) _ _ (E σ) (hr.make C us [])
    (I2.env0.make C us []) (hb _ (Value.ref (s1.heap.objs.size + 1) :: us) I2.kIn hl) r2 hq) fun r s' hq' => ?_))
  cases r with
  | error e => exact hx σ pins _ _ e s' I2 hq'
  | ok fl =>
    cases fl with
    | ret u =>
      obtain ⟨v, H', I3, rv, ev, q3⟩ := I2.after hq'
      subst ev
      exact ⟨rv, ⟨V.ref (s1.heap.objs.size + 1), H', I3, rfl, q3⟩⟩
    | next => exact False.elim hq'
    | brk => exact False.elim hq'
    | cont => exact False.elim hq'
theorem pe_methSD (he : PE X o ta) (c : Cls X.K C) (hm : Meth X.K C m f) (F : FnOk X.prog X.w X.K X.mg X.base CX k f fd ps sp) (hr : Room k X.A) (hb : Binds X.K fd ps ds) (hd : Vals dvs ds) (hx : ∀ σ, PassesAt CX X σ (E σ)) (ha : PA X (e :: es) t)
    (hst : starEach (e :: es) X.env = (false, eval e X.env) :: starEach es X.env := by rfl) (hpl : (backTo pos (starEach es X.env)).any (·.1) = false := by rfl)
    (ht : eval (.Call (.Attribute o m apos) (e :: es) [] pos) X.env = (do
      let ov ← eval o X.env
      standAt apos.atName
      let (f, first) ← holding [ov] (getMethod ov m pl)
      callWith pos f first (backTo pos (starEach (e :: es) X.env)) (backToKw pos (keywordEach [] X.env))) := by rfl) :
    PE X (.Call (.Attribute o m apos) (e :: es) [] pos) (tMethSD C m sp dvs E ta t) := by
  refine ⟨fun pins s σ H Q I h => ?_⟩
  refine PySem.W.methodCall_KW (pl := pl) (thn (he.run pins s σ H _ I h) fun u s1 ⟨x, H1, I1, rx, a, dx, fs, ex, ea, l, q⟩ => ?_) ht
  subst ex
  obtain rfl : u = Value.ref a := rx
  refine getmeth_ok I1 ea c hm l ?_
  refine PySem.W.callWith_K (first := [.ref a]) (h₀ := X.base) I.ok.mod.kin hm.kp (thn (ha.run pos pins s1 σ H1 _ I1 q) fun us s2 ⟨vs, H2, I2, r, q2⟩ => ⟨I2.kIn, ?_⟩) hst hpl
  exact run_fnSD (us := .ref a :: us) (vs := .ref a :: vs) F hr hb hd (hx σ) I2 (.cons rfl r) q2
end
end L3
/-! L4b: __init__ that may raise, made; a second bag; wide powers. -/
namespace L3
open PySem L2
abbrev SpecIX := Option (Addr × Addr) → Nat → List D → (Nat → List (Str × D) → Prop) → (Nat → Addr → List (Str × D) → Prop) → Prop
def spIX (K : PySem.W.Frag) (C : Addr) (S : SpecIX) : Sp := fun vs H Q E => ∃ (O : List Addr) (bag : Option (Addr × Addr)) (n : Nat) (ds : List D) (Φ : Nat → List (Str × D) → Prop) (Ξ : Nat → Addr → List (Str × D) → Prop) (p dx : Addr) (ws : List V),
  vs = .ref p :: ws ∧ H p = some (.ins C dx []) ∧ p ∉ O ∧ (∀ b q, bag = some (b, q) → BagOk b q n H ∧ b ∈ O ∧ q ∈ O ∧ q ≠ b) ∧ (∀ o ∈ O, H o ≠ none) ∧ RpAll K (hid (p :: O) H) ws ds ∧ S bag n ds Φ Ξ ∧
  (∀ fs ks n' H', Same (hid (p :: bagB bag) H) (hid (p :: bagB bag) H') → (∀ b q, bag = some (b, q) → BagOk b q n' H') → H' p = some (.ins C dx fs) → RpFs K (hid (p :: O) H') fs ks → Φ n' ks → Q .non H') ∧
  ∀ C' ex fs ks n' H', Same (hid (p :: bagB bag) H) (hid (p :: bagB bag) H') → (∀ b q, bag = some (b, q) → BagOk b q n' H') → H' ex = some (.xd fs) → ex ∉ p :: O → RpFs K (hid (p :: O) H') fs ks → Ξ n' C' ks → E (.ref C') (some ex) H'
section
variable {P : Program} {w : World} {K : PySem.W.Frag} {mg : Str → Option Value} {base : Heap} {O : List Addr} {bag : Option (Addr × Addr)} {p C dx : Addr} {H00 : Hp} {ρ : List SD} {n : Nat} {ks : List (Str × D)} {Φ : Nat → List (Str × D) → Prop} {te : TE} {ts us : TS} {f : Str}
/-- as WN, at heaps that are behind H00 -/
def WNX (P : Program) (w : World) (K : PySem.W.Frag) (O : List Addr) (bag : Option (Addr × Addr)) (p C dx : Addr) (H00 : Hp) (ts : TS) (ρ : List SD) (n : Nat) (ks : List (Str × D)) (Φ : Nat → List (Str × D) → Prop) : Prop :=
  ∀ (H : Hp) (σ : List (Option V)) (fs : List (Str × V)) (Dn : Ends), Same (hid (p :: bagB bag) H00) (hid (p :: bagB bag) H) → H p = some (.ins C dx fs) → p ∉ O → RpFs K (hid (p :: O) H) fs ks → Env ⟨P, w, K, p :: O, bag, H⟩ (fun _ => none) [] n H σ ρ →
  (∀ σ' fs' ks' n' H', Same (hid (p :: bagB bag) H) (hid (p :: bagB bag) H') → (∀ b q, bag = some (b, q) → BagOk b q n' H') → H' p = some (.ins C dx fs') → RpFs K (hid (p :: O) H') fs' ks' → Φ n' ks' → Dn.nx σ' H') → ts Dn σ H
theorem wnx_of (h : WN P w K O bag p C dx ts ρ n ks Φ) : WNX P w K O bag p C dx H00 ts ρ n ks Φ := fun H σ fs Dn _ hp pO hf E q => h H σ fs Dn hp pO hf E q
theorem wnx_pre (h : ∀ H0, Same (hid (p :: bagB bag) H00) (hid (p :: bagB bag) H0) → WS ⟨P, w, K, p :: O, bag, H0⟩ ts ρ n { nx := fun n1 ρ1 => flat ρ1 = true ∧ WNX P w K O bag p C dx H00 us ρ1 n1 ks Φ, rt := fun _ _ => False }) : WNX P w K O bag p C dx H00 (tSeq ts us) ρ n ks Φ := fun H σ fs Dn h00 hp pO hf E q => by
  refine h H h00 (fun _ => none) [] σ H { Dn with nx := us Dn } E { nx := fun L n1 H1 σ1 ρ1 E1 ⟨hfl, hn⟩ => ?_, rt := fun _ _ _ _ _ _ _ h => h.elim, bk := fun _ _ _ _ _ _ h => h.elim, ct := fun _ _ _ _ _ _ h => h.elim }
  have pB : p ∉ bagB bag := fun z => by
    obtain ⟨q, hq⟩ := (mem_B (c := ⟨P, w, K, p :: O, bag, H⟩)).mp z
    obtain ⟨xs, hx⟩ := (E.bag p q hq).lst
    rw [hp] at hx; cases hx
  have hp1 : H1 p = some (.ins C dx fs) := (hid_some.mp (E1.base p _ (hid_some.mpr ⟨pB, hp⟩))).2
  have bO : ∀ a, a ∈ bagB bag → a ∈ p :: O := fun a ha => E.inO (show a ∈ (⟨P, w, K, p :: O, bag, H⟩ : Ctx).B from ha)
  have s0 : Same (hid (p :: O) H) (hid (p :: O) H1) := same_hid_more bO E1.base
  have sp : Same (hid (p :: bagB bag) H) (hid (p :: bagB bag) H1) := same_hid_more (fun a ha => List.mem_cons_of_mem _ ha) E1.base
  obtain ⟨Ls, sl, sb⟩ := E1.slots
  have eL := sl.flat hfl
  subst eL
  refine hn H1 σ1 fs Dn (h00.trans sp) hp1 pO (hf.mono s0) ?_ fun σ' fs' ks' n' H' s' b' hp' hf' kk' => q σ' fs' ks' n' H' (sp.trans s') b' hp' hf' kk'
  exact { nd := List.nodup_nil, fresh := (fun l hl => nomatch hl), slots := ⟨[], sl.move (fun l hl => nomatch hl) (same_hid_sub fun a ha => List.mem_append_right _ ha), List.Sublist.refl _⟩, lst := (fun l hl => nomatch hl), bag := E1.bag, base := Same.refl _,
          pers := (fun _ _ e => nomatch e), bO := E1.bO, al := E1.al }
/-- what is wished of an error, at heaps behind H00 -/
def XAI (P : Program) (w : World) (K : PySem.W.Frag) (O : List Addr) (bag : Option (Addr × Addr)) (p : Addr) (H00 : Hp) (W : WX) (Ξ : Er) : Prop := ∀ H0, Same (hid (p :: bagB bag) H00) (hid (p :: bagB bag) H0) → XA ⟨P, w, K, p :: O, bag, H0⟩ W Ξ
theorem init_go {N : List Str} {S : SpecIX} {vs : List V} {H : Hp} {Q : VK} {E : XK} {t : TS} (h : spIX K C S vs H Q E)
    (W : ∀ (O : List Addr) (bag : Option (Addr × Addr)) (n : Nat) (ds : List D) (Φ : Nat → List (Str × D) → Prop) (Ξ : Nat → Addr → List (Str × D) → Prop) (p dx : Addr), S bag n ds Φ Ξ → XAI P w K O bag p H (fun cls d _ H' => E cls d H') (fun n' _ C ks => Ξ n' C ks) → WNX P w K O bag p C dx H t (rho N (.adr p :: ds)) n [] Φ) :
    t { nx := fun _ H' => Q .non H', rt := Q } (L2.start N vs) H := by
  obtain ⟨O, bag, n, ds, Φ, Ξ, p, dx, ws, rfl, hp, pO, hb, hO, r, hS, q, qx⟩ := h
  have hx : XAI P w K O bag p H (fun cls d _ H' => E cls d H') (fun n' _ C ks => Ξ n' C ks) := fun H0 s0 P' L n' H' σ ρ C' ex fs ks E' hd hn hf kk => by
    refine qx C' ex fs ks n' H' (s0.trans (same_hid_more (fun a ha => List.mem_cons_of_mem _ ha) E'.base)) (fun b q e => E'.bag b q e) hd (fun z => hn (List.mem_append_right _ z)) (hf.mono (same_hid_sub fun a ha => List.mem_append_right _ ha)) kk
  refine W O bag n ds Φ Ξ p dx hS hx H _ [] _ (Same.refl _) hp pO .nil ?_ fun σ' fs' ks' n' H' s' b' hp' hf' kk' => q fs' ks' n' H' s' b' hp' hf' kk'
  have r' : RpAll K (hid (p :: O) H) (.ref p :: ws) (.adr p :: ds) := .cons (.adr p) r
  have e : L2.start N (.ref p :: ws) = (.ref p :: ws).map some ++ List.replicate (N.length - (D.adr p :: ds).length) none := by unfold L2.start; rw [r'.length]
  exact { nd := List.nodup_nil, fresh := (fun l hl => nomatch hl), slots := ⟨[], by rw [e]; exact slots_start r', List.Sublist.refl _⟩, lst := (fun l hl => nomatch hl), bag := fun b q e => (hb b q e).1, base := Same.refl _,
          pers := (fun _ _ e => nomatch e), bO := fun b q e => ⟨List.mem_cons_of_mem _ (hb b q e).2.1, List.mem_cons_of_mem _ (hb b q e).2.2.1, (hb b q e).2.2.2⟩,
          al := fun o ho => by
            rcases List.mem_cons.mp ho with z | z
            · rw [z, hp]; exact fun z => nomatch z
            · exact hO o z }
theorem spIX_len {S : SpecIX} {ps : List Str} {vs : List V} {H : Hp} {Q : VK} {E : XK} (len : ∀ bag n ds Φ Ξ, S bag n ds Φ Ξ → ds.length + 1 = ps.length) (h : spIX K C S vs H Q E) : vs.length = ps.length := by
  obtain ⟨O, bag, n, ds, Φ, Ξ, p, dx, ws, rfl, _, _, _, _, r, hS, _⟩ := h
  rw [List.length_cons, r.length]; exact len bag n ds Φ Ξ hS
/-- THE RULES for an __init__ that may raise -/
theorem fn_IX {x qual : Str} {st : Stmt} {fa : Addr} {fd : FuncData} {N ps : List Str} {k : Nat} {S : SpecIX} (F : Fun K x qual st fa fd) (sc : FnScope N ps (defScope st))
    (len : ∀ bag n ds Φ Ξ, S bag n ds Φ Ξ → ds.length + 1 = ps.length)
    (body : ∀ (cdv : Value) (A : Around) (outer : List PySem.Env) (s : Shared) (H : Hp) (E : XK), Room k (A.deeper (PyProof.Rows.envOfC qual (defScope st) s.heap.objs.size fa cdv)) →
      ∃ t, PSs (cxOf (L2.CX P w) P w K mg base N qual (defScope st) fa cdv A outer s H E) (defBody st) t ∧ ∀ (O : List Addr) (bag : Option (Addr × Addr)) (n : Nat) (ds : List D) (Φ : Nat → List (Str × D) → Prop) (Ξ : Nat → Addr → List (Str × D) → Prop) (p dx : Addr), S bag n ds Φ Ξ →
        XAI P w K O bag p H (fun cls d _ H' => E cls d H') (fun n' _ C ks => Ξ n' C ks) → WNX P w K O bag p C dx H t (rho N (.adr p :: ds)) n [] Φ) :
    FnOk P w K mg base (L2.CX P w) (k + 1) fa fd ps (spIX K C S) := by
  refine F.okX sc (fun vs H Q E h => spIX_len len h) (fun cdv A outer s H vs Q E hr h => ?_)
  obtain ⟨t, ht, W⟩ := body cdv A outer s H E hr
  exact ⟨t, ht, init_go h W⟩
theorem fn_IDX {x qual : Str} {st : Stmt} {fa : Addr} {fd : FuncData} {N ps : List Str} {k : Nat} {S : SpecIX} {dvs : List V} (F : FunD K x qual (defArgs st) (defBody st) (defScope st) dvs [] fa fd) (sc : FnScope N ps (defScope st))
    (len : ∀ bag n ds Φ Ξ, S bag n ds Φ Ξ → ds.length + 1 = ps.length)
    (body : ∀ (cdv : Value) (A : Around) (outer : List PySem.Env) (s : Shared) (H : Hp) (E : XK), Room k (A.deeper (PyProof.Rows.envOfC qual (defScope st) s.heap.objs.size fa cdv)) →
      ∃ t, PSs (cxOf (L2.CX P w) P w K mg base N qual (defScope st) fa cdv A outer s H E) (defBody st) t ∧ ∀ (O : List Addr) (bag : Option (Addr × Addr)) (n : Nat) (ds : List D) (Φ : Nat → List (Str × D) → Prop) (Ξ : Nat → Addr → List (Str × D) → Prop) (p dx : Addr), S bag n ds Φ Ξ →
        XAI P w K O bag p H (fun cls d _ H' => E cls d H') (fun n' _ C ks => Ξ n' C ks) → WNX P w K O bag p C dx H t (rho N (.adr p :: ds)) n [] Φ) :
    FnOk P w K mg base (L2.CX P w) (k + 1) fa fd ps (spIX K C S) := by
  refine F.ok sc (fun vs H Q E h => spIX_len len h) (fun cdv A outer s H vs Q E hr h => ?_)
  obtain ⟨t, ht, W⟩ := body cdv A outer s H E hr
  exact ⟨t, ht, init_go h W⟩
end
section
variable {c : Ctx} {ρ : List SD} {n : Nat} {te to : TE} {as : TA} {Φ : Nat → D → Prop} {W : WX} {Ξ : Er}
theorem make_go {C : Addr} {S : SpecIX} {dvs : List V} {dds : List D} (hw : XA c W Ξ) (hd : ∀ H, RpAll c.K H dvs dds) {P : Hp} {L : List Addr} {σ : L2.St} {H : Hp} {Q : VK} {E' : XK} (hE : ∀ cls d H', W cls d σ H' → E' cls d H') {vs : List V} {ds : List D} (E1 : Env c P L n H σ ρ)
    (r1 : RpAll c.K (hid (L ++ c.O) H) vs ds) (k : S c.bag n (ds ++ dds) (fun n2 ks => Φ n2 (.obj C ks)) fun n2 C' ks => Ξ n2 ρ C' ks)
    (q : ∀ v d n' H', Same (hid c.B H) (hid c.B H') → c.J n' H' → Rp c.K (hid (L ++ c.O) H') v d → Φ n' d → Q v H') : ∀ x dx, H x = none → H dx = none → dx ≠ x →
    spIX c.K C S (.ref x :: (vs ++ dvs)) (upd (upd H dx (.own x)) x (.ins C dx [])) (fun v H2 => v = .non ∧ Q (.ref x) H2) E' := by
  intro x dx nx ndx nex
  have xO : x ∉ L ++ c.O := E1.noO x nx
  have keep : ∀ a o, H a = some o → (upd (upd H dx (.own x)) x (.ins C dx [])) a = some o := fun a o e => by
    rw [upd_ne (fun z : a = x => by rw [z, nx] at e; cases e), upd_ne (fun z : a = dx => by rw [z, ndx] at e; cases e)]
    exact e
  have sm : Same (hid (L ++ c.O) H) (hid (x :: (L ++ c.O)) (upd (upd H dx (.own x)) x (.ins C dx []))) := fun a o e => by
    obtain ⟨e1, e2⟩ := hid_some.mp e
    refine hid_some.mpr ⟨fun z => ?_, keep a o e2⟩
    rcases List.mem_cons.mp z with z | z
    · rw [z, nx] at e2; cases e2
    · exact e1 z
  have back : ∀ H3, Same (hid (x :: bagB c.bag) (upd (upd H dx (.own x)) x (.ins C dx []))) (hid (x :: bagB c.bag) H3) → Same (hid c.B H) (hid c.B H3) := fun H3 s3 a o e => by
    obtain ⟨e1, e2⟩ := hid_some.mp e
    have ne : a ≠ x := fun z => by rw [z, nx] at e2; cases e2
    have z := s3 a o (hid_some.mpr ⟨fun z => by
      rcases List.mem_cons.mp z with z | z
      · exact ne z
      · exact e1 z, keep a o e2⟩)
    exact hid_some.mpr ⟨e1, (hid_some.mp z).2⟩
  refine ⟨L ++ c.O, c.bag, n, ds ++ dds, _, _, x, dx, vs ++ dvs, rfl, upd_same, xO, fun b q hb => ⟨(E1.bag b q hb).move (fun o e => keep b o e) (fun o e => keep q o e), List.mem_append_right _ (E1.bO b q hb).1, List.mem_append_right _ (E1.bO b q hb).2.1, (E1.bO b q hb).2.2⟩, fun o ho => ?_, (r1.mono sm).append (hd _), k, fun fs ks n2 H3 s3 j3 hx hf kk => ⟨rfl, ?_⟩, fun C' ex fs ks n2 H3 s3 j3 hx hn hf kk => ?_⟩
  · cases e : H o with
    | none => exact absurd e (E1.alLO o ho)
    | some u => rw [keep o u e]; exact fun z => nomatch z
  · exact q (.ref x) (.obj C ks) n2 H3 (back H3 s3) j3 (.obj (dx := dx) (hid_some.mpr ⟨xO, hx⟩) (hf.mono (same_hid_sub fun a ha => List.mem_cons_of_mem _ ha))) kk
  · exact hE _ _ _ (hw P L n2 H3 σ ρ C' ex fs ks (E1.step (back H3 s3) j3) hx (fun z => hn (List.mem_cons_of_mem _ z)) (hf.mono (same_hid_sub fun a ha => List.mem_cons_of_mem _ ha)) kk)
theorem we_makeSD {C : Addr} {S : SpecIX} {dvs : List V} {dds : List D} (hw : XA c W Ξ) (hd : ∀ H, RpAll c.K H dvs dds) (h : WA c as ρ n fun n1 ds => S c.bag n1 (ds ++ dds) (fun n2 ks => Φ n2 (.obj C ks)) fun n2 C' ks => Ξ n2 ρ C' ks) :
    WE c (tMakeSD C (spIX c.K C S) dvs (fun σ => L2.WE W σ) as) ρ n Φ := fun P L σ H Q E q => by
  refine h P L σ H _ E fun vs ds n1 H1 s1 j1 r1 k => ?_
  exact make_go hw hd (fun _ _ _ z => z) (E.step s1 j1) r1 k fun v d n' H' s' j' r' kk => q v d n' H' (s1.trans s') j' r' kk
theorem we_makeX {C : Addr} {S : SpecIX} {dvs : List V} {dds : List D} {XE : XK} (hw : XA c (fun cls d _ H => XE cls d H) Ξ) (hd : ∀ H, RpAll c.K H dvs dds) (h : WA c as ρ n fun n1 ds => S c.bag n1 (ds ++ dds) (fun n2 ks => Φ n2 (.obj C ks)) fun n2 C' ks => Ξ n2 ρ C' ks) :
    WE c (tMake C (spIX c.K C S) dvs XE as) ρ n Φ := fun P L σ H Q E q => by
  refine h P L σ H _ E fun vs ds n1 H1 s1 j1 r1 k => ?_
  exact make_go hw hd (fun _ _ _ z => z) (E.step s1 j1) r1 k fun v d n' H' s' j' r' kk => q v d n' H' (s1.trans s') j' r' kk
theorem we_methSD {C : Addr} {m : Str} {S : SpecX} {dvs : List V} {dds : List D} (hw : XA c W Ξ) (hd : ∀ H, RpAll c.K H dvs dds)
    (h : WE c to ρ n fun n1 x => ∃ ds, x = .obj C ds ∧ ds.lookup m = none ∧ WA c as ρ n1 fun n2 es => S c.bag n2 (.obj C ds :: (es ++ dds)) Φ fun n3 C ks => Ξ n3 ρ C ks) : WE c (tMethSD C m (spDX c.K S) dvs (fun σ => L2.WE W σ) to as) ρ n Φ := fun P L σ H Q E q => by
  refine h P L σ H _ E fun x d n1 H1 s1 j1 r1 ⟨ds, e, hn, ha⟩ => ?_
  subst e
  have E1 := E.step s1 j1
  cases r1 with
  | obj h1 hf =>
    refine ⟨_, _, _, rfl, (hid_some.mp h1).2, hf.none hn, ?_⟩
    refine ha P L σ H1 _ E1 fun vs es n2 H2 s2 j2 r2 k => ?_
    have E2 := E1.step s2 j2
    refine ⟨L ++ c.O, c.bag, n2, _, Φ, _, fun b q hb => ⟨j2 b q hb, List.mem_append_right _ (E.bO b q hb).1, List.mem_append_right _ (E.bO b q hb).2.1, (E.bO b q hb).2.2⟩, E2.alLO, .cons ((Rp.obj h1 hf).mono (E1.sameLO s2)) (r2.append (hd _)), k,
      fun v d n3 H3 s3 j3 r3 k3 => q v d n3 H3 ((s1.trans s2).trans s3) j3 r3 k3, fun C' dx fs ks n3 H3 s3 j3 hx hn hf kk => ?_⟩
    exact hw P L n3 H3 σ ρ C' dx fs ks (E2.step s3 j3) hx hn hf kk
end
/-! ### a second bag -/
/-- a bag made of a bag -/
def spNewBag : Sp := fun vs H Q _ => ∃ (b q : Addr) (n : Nat), vs = [.ref b] ∧ BagOk b q n H ∧ ∀ b2 q2 H', Same H H' → H b2 = none → H q2 = none → q2 ≠ b2 → BagOk b2 q2 0 H' → Q (.ref b2) H'
section
variable {c : Ctx} {ρ : List SD} {n i : Nat} {Φ : Nat → D → Prop} {b q : Addr} {S : L3.Spec} {XE XE' : XK}
theorem we_bag2 (hb : c.bag = some (b, q)) (hi : ρ[i]? = some (.val (.adr b))) (h : ∀ b2 q2, S (some (b2, q2)) 0 [.adr b2] fun _ d => ∃ k, d = .bl k ∧ Φ n (.bl k)) :
    WE c (tCall (spD c.K S) [] XE (tCons (tCall spNewBag [] XE' (tCons (tVar i) tNil)) tNil)) ρ n Φ := fun P L σ H Q E q0 => by
  obtain ⟨Ls, sl, sb⟩ := E.slots
  obtain ⟨v, hv, rv⟩ := sl.get hi
  cases rv
  refine ⟨_, hv, b, q, n, rfl, E.bag b q hb, fun b2 q2 H1 s1 nb nq ne B2 => ?_⟩
  have bO := E.bO b q hb
  refine ⟨[b2, q2], some (b2, q2), 0, [.adr b2], _, fun b' q' e => ?_, fun o ho => ?_, .cons (.adr b2) .nil, h b2 q2, fun v d n' H' s j r ⟨k, e, kk⟩ => ?_⟩
  · cases e
    exact ⟨B2, List.mem_cons_self, List.mem_cons_of_mem _ List.mem_cons_self, ne⟩
  · obtain ⟨t, r, cs, h1, h2, _⟩ := B2
    rcases List.mem_cons.mp ho with z | z
    · rw [z, h1]; exact fun z => nomatch z
    · rw [List.mem_singleton.mp z, h2]; exact fun z => nomatch z
  · subst e
    cases r
    have nx : ∀ a o, H a = some o → H' a = some o := fun a o ha => by
      have ne2 : a ≠ b2 := fun z => by rw [z, nb] at ha; cases ha
      exact (hid_some.mp (s a o (hid_some.mpr ⟨fun z => ne2 (List.mem_singleton.mp z), s1 a o ha⟩))).2
    obtain ⟨sB, jB⟩ := E.same nx
    exact q0 _ _ n H' sB jB (.bl k) kk
end
/-! ### powers of any base -/
def CPowB (i j : Int) : Prop := 0 ≤ j ∧ (Builtin.Int.intBits i : Int) * j ≤ 2 ^ 27
theorem op_powB {X : Cx} : OpR X (binaryOp .Pow) (rI CPowB fun i j => .int (i ^ j.toNat)) := opI fun _ _ _ _ _ _ _ hc q => PyProof.Rows.pow_int hc.1 hc.2 q
end L3
/-! L5a: texts as data: split, join, str(int), int(text). -/
namespace L3
open PySem L2
section
variable {c : Ctx} {ρ : List SD} {n : Nat} {Φ : Nat → D → Prop} {to te : TE}
abbrev rSpl : V → List V → Hp → VK → Prop := fun x xs H Q => ∃ a b, x = .str a ∧ xs = [.str b] ∧ (b.length == 0) = false ∧ a.length + 2 ≤ sizeLine ∧ rNewStrs (Txt.split a b) H Q
abbrev rJoi (K : PySem.W.Frag) : V → List V → Hp → VK → Prop := fun x xs H Q => ∃ a p, ∃ ys : List Str, x = .str a ∧ xs = [.ref p] ∧ (SqL K H p (ys.map V.str) ∨ SqT K H p (ys.map V.str)) ∧
  (ys.map (·.length)).sum + ys.length * a.length ≤ 16777216 ∧ Q (.str (Txt.join a ys)) H
theorem rp_strs {K : PySem.W.Frag} {H : Hp} : ∀ {vs : List V} {zs : List Str}, RpAll K H vs (zs.map .str) → vs = zs.map V.str
  | [], [], _ => rfl
  | _ :: _, [], h => by cases h
  | [], _ :: _, h => by cases h
  | v :: vs, z :: zs, h => by
    cases h with
    | cons h t =>
      cases h
      rw [rp_strs t]; rfl
theorem rp_ofStrs {K : PySem.W.Frag} {H : Hp} : ∀ zs : List Str, RpAll K H (zs.map V.str) (zs.map .str)
  | [] => .nil
  | z :: zs => .cons (.str z) (rp_ofStrs zs)
theorem we_split (h : WE c to ρ n fun n1 d => ∃ a, d = .str a ∧ a.length + 2 ≤ sizeLine ∧ WE c te ρ n1 fun n2 e => ∃ b, e = .str b ∧ (b.length == 0) = false ∧ Φ n2 (.lst ((Txt.split a b).map .str))) : WE c (tM1 rSpl to te) ρ n Φ := fun P L σ H Q E q => by
  refine h P L σ H _ E fun x d n1 H1 s1 j1 r1 ⟨a, e, ha, h1⟩ => ?_
  subst e
  cases r1
  have E1 := E.step s1 j1
  refine ⟨⟨a, rfl⟩, h1 P L σ H1 _ E1 fun y d2 n2 H2 s2 j2 r2 ⟨b, e2, hb, k⟩ => ?_⟩
  subst e2
  cases r2
  refine ⟨a, b, rfl, rfl, hb, ha, fun p hp => ?_⟩
  have z := (E1.step s2 j2).newT (o := .lst ((Txt.split a b).map V.str)) hp
  exact q _ _ n2 _ ((s1.trans s2).trans z.1) z.2.1 (.lst (.inl (hid_at z.2.2)) (rp_ofStrs _)) k
theorem we_join (h : WE c to ρ n fun n1 d => ∃ a, d = .str a ∧ WE c te ρ n1 fun n2 e => ∃ zs : List Str, seqD e = some (zs.map .str) ∧ (zs.map (·.length)).sum + zs.length * a.length ≤ 16777216 ∧ Φ n2 (.str (Txt.join a zs))) : WE c (tM1 (rJoi c.K) to te) ρ n Φ := fun P L σ H Q E q => by
  refine h P L σ H _ E fun x d n1 H1 s1 j1 r1 ⟨a, e, h1⟩ => ?_
  subst e
  cases r1
  have E1 := E.step s1 j1
  refine ⟨⟨a, rfl⟩, h1 P L σ H1 _ E1 fun y d2 n2 H2 s2 j2 r2 ⟨zs, hs, hz, k⟩ => ?_⟩
  cases r2 with
  | lst hq hr =>
    have e := Option.some.inj hs
    subst e
    rw [rp_strs hr] at hq
    exact ⟨a, _, zs, rfl, rfl, .inl (.inl (same_rd same_hid hq)), hz, q _ _ n2 _ (s1.trans s2) j2 (.str _) k⟩
  | tup hq hr =>
    have e := Option.some.inj hs
    subst e
    rw [rp_strs hr] at hq
    exact ⟨a, _, zs, rfl, rfl, .inr (same_t same_hid hq), hz, q _ _ n2 _ (s1.trans s2) j2 (.str _) k⟩
  | _ => cases hs
abbrev rStrI : List V → Hp → VK → Prop := fun xs H Q => ∃ i : Int, xs = [.int i] ∧ i.natAbs.log2 < 1920 ∧ Q (.str (toString i)) H
abbrev rIntS : List V → Hp → VK → Prop := fun xs H Q => ∃ a n, xs = [.str a] ∧ PySem.intText? a = some n ∧ a.length ≤ 640 ∧ Q (.int n) H
theorem rc_strI {K : PySem.W.Frag} {Φ : D → Prop} {i : Int} (hi : i.natAbs.log2 < 1920) (k : Φ (.str (toString i))) : RCD K rStrI [.int i] Φ := fun O H xs Q rs no q => by
  obtain ⟨v, rfl, r⟩ := rs.one
  cases r
  exact ⟨i, rfl, hi, q _ _ H (Same.refl _) (.str _) k⟩
theorem rc_intS {K : PySem.W.Frag} {Φ : D → Prop} {a : Str} {i : Int} (h : PySem.intText? a = some i) (hl : a.length ≤ 640) (k : Φ (.int i)) : RCD K rIntS [.str a] Φ := fun O H xs Q rs no q => by
  obtain ⟨v, rfl, r⟩ := rs.one
  cases r
  exact ⟨a, i, rfl, h, hl, q _ _ H (Same.refl _) (.int _) k⟩
end
end L3
/-! L5b: instances whose __iter__ hands on the iterator of a tuple of theirs. -/
namespace L3
open PySem PySem.Spec PyProof.Rows L2
/-- a tuple's iterator at its beginning -/
def tiO (t : Addr) : Obj := { cls := .type "tuple_iterator", data := .fields #[.ref t, .int 0 0] }
def ItT (t it : Addr) : HO := .ext fun h => h.get? it = some (tiO t)
abbrev rItT (K : PySem.W.Frag) (n : Nat) : List V → Hp → VK → Prop := fun xs H Q => ∃ (t : Addr) (zs : List V), xs = [.ref t] ∧ SqT K H t zs ∧ ∀ it, H it = none → n ≤ it → Q (.ref it) (upd H it (ItT t it))
section
variable {X : Cx}
theorem x_iterT : CallR X (.builtin "iter") (rItT X.K X.s_0.heap.objs.size) := by
  intro pins s σ H xs us Q I r ⟨t, zs, hx, ht, q⟩
  subst hx
  have eu := Vals.ref1 r
  subst eu
  obtain ⟨its, _, pt, _⟩ := I.tuple ht
  refine Calls.call_function_entry (by decide +kernel) (by decide +kernel) PySem.W.kdk_entry_iter (PySem.W.kdk_args_iter _) ?_
  unfold Builtin.«iter»
  refine wpAny_bind (m := someArgs "iter" 1 2 _) (wpAny_of_eq (a := [Value.ref t]) (by first | rfl | kernel_rfl!) ?_)
  show wpAny _ _ (pyIter (Value.ref t) >>= _) _ _ _
  have ep : L2.Inv X pins σ (upd H s.heap.objs.size (ItT t s.heap.objs.size)) { s with heap := s.heap.push (tiO t), toks := s.toks } := I.laid (fun b u e => Heap.get?_push_of_some _ e) (Nat.le_refl _) ⟨Heap.get?_push_size _ rfl, ⟨_, Heap.get?_push_size _ rfl⟩, fun _ _ a k => k _ a⟩
  exact wpAny_bind (wpAny_pyIter_tuple (show s.heap.IsTuple t its.toArray from pt) (wpAny_pure ⟨_, rfl, .ref s.heap.objs.size, _, ep, rfl, q _ (I.hok.fresh (Nat.le_refl _)) I.sz⟩))
end
/-- what such an __iter__ does: f the field of the tuple -/
def ItRun (P : Program) (w : World) (K : PySem.W.Frag) (mg : Str → Option Value) (base : Heap) (C : Addr) (f : Str) (k : Nat) (fi : Addr) : Prop :=
  ∀ (A : Around) (outer : List PySem.Env) (s : Shared) (H : Hp) (E : XK) (a dx t : Addr) (fs : List (Str × V)) (xs : List V), Room k A → Env0 P w K mg base A outer s H → H a = some (.ins C dx fs) → fs.lookup f = some (.ref t) → SqT K H t xs →
    codeAny (model P w) A (.call (.ref fi) ⟨[.ref a], []⟩) (CR CX0 outer P w H s (fun v H' => ∃ it, v = .ref it ∧ H it = none ∧ s.heap.objs.size ≤ it ∧ H' = upd H it (ItT t it)) E) s
theorem itRun_of {P : Program} {w : World} {K : PySem.W.Frag} {mg : Str → Option Value} {base : Heap} {C fa : Addr} {f : Str} {k : Nat} {x qual : Str} {st : Stmt} {fd : FuncData} {N : List Str} (F : Fun K x qual st fa fd) (sc : FnScope N ["self"] (defScope st)) (b : Binds K fd ["self"] [])
    (body : ∀ (cdv : Value) (A : Around) (outer : List PySem.Env) (s : Shared) (H : Hp) (E : XK), ∃ t, PSs (cxOf CX0 P w K mg base N qual (defScope st) fa cdv A outer s H E).nox (defBody st) t ∧
      ∀ (a dx tt : Addr) (fs : List (Str × V)) (xs : List V) (Q : VK), H a = some (.ins C dx fs) → fs.lookup f = some (.ref tt) → SqT K H tt xs → (∀ it, H it = none → s.heap.objs.size ≤ it → Q (.ref it) (upd H it (ItT tt it))) → t { nx := fun _ H' => Q .non H', rt := Q } (L2.start N [.ref a]) H) : ItRun P w K mg base C f (k + 1) fa := by
  intro A outer s H E a dx tt fs xs hr e0 ha hl ht
  obtain ⟨oc, od, kV, doc, pm, an, cdv, ct, osl, rfl, lk, hcd⟩ := F.ex
  refine LamX.run_ofS (N := N) (ps := ["self"]) (vs := [.ref a]) (us := [.ref a]) lk hcd sc hr e0 (by
    have z := b s [.ref a] (e0.mod.kin.keeps fun b o e => (e0.bs b o e).1) rfl
    simpa using z) (.cons rfl .nil) rfl fun _ => ?_
  obtain ⟨t, h1, h2⟩ := body cdv A outer s H E
  exact ⟨t, h1.nox, h2 a dx tt fs xs (fun v H' => ∃ it, v = .ref it ∧ H it = none ∧ s.heap.objs.size ≤ it ∧ H' = upd H it (ItT tt it)) ha hl ht fun it hn hy => ⟨it, rfl, hn, hy, rfl⟩⟩
def iOwn (K : PySem.W.Frag) (C : Addr) (f : Str) (tl : TE) : TI := fun σ H R => tl σ H fun x H1 => ∃ (a dx t : Addr) (fs : List (Str × V)) (xs : List V), x = .ref a ∧ H1 a = some (.ins C dx fs) ∧ fs.lookup f = some (.ref t) ∧ SqT K H1 t xs ∧ R (Itt K t) H1
/-- a class with such an __iter__, as callers see it -/
structure ItOwn (P : Program) (w : World) (K : PySem.W.Frag) (mg : Str → Option Value) (base : Heap) (C : Addr) (f : Str) (k : Nat) where
  fi : Addr
  it : PySem.W.findIn K (.ref C) "__iter__" = some (some (.ref fi))
  fn : PySem.W.isFn K (.ref fi) = true
  G : ItRun P w K mg base C f k fi
section
variable {X : Cx} {tg l : Expr} {tl : TE} {C fi : Addr} {f : Str} {k : Nat} {E : XK}
theorem pi_own (hl : PE X l tl) (F : ItRun X.prog X.w X.K X.mg X.base C f k fi) (hi : PySem.W.findIn X.K (.ref C) "__iter__" = some (some (.ref fi))) (hf : PySem.W.isFn X.K (.ref fi) = true) (hr : Room k X.A) (hx : Passes CX0 X E) : PI X tg l (iOwn X.K C f tl) := by
  refine ⟨fun pins s σ H R I h => ?_⟩
  refine thn (hl.run pins s σ H _ I h) fun v s1 ⟨x, H1, I1, r1, a, dx, t, fs, xs, ex, ha, hfl, ht, q⟩ => ?_
  subst ex
  cases r1
  obtain ⟨mA, J, _⟩ := ins_get I1.hok ha
  obtain ⟨od, J, _⟩ := J.look
  obtain ⟨m, hF⟩ := I1.fr
  refine PySem.W.owit_iter hF I1.ok.mod.kin J hi hf (wpAny_call (codeAny_mono (F X.A X.stack s1 H1 E a dx t fs xs hr I1.env0 ha hfl ht) fun r s' hq => ?_))
  cases r with
  | error e => exact hx pins σ H1 s1 e s' I1 hq
  | ok fl =>
    cases fl with
    | next => exact False.elim hq
    | brk => exact False.elim hq
    | cont => exact False.elim hq
    | ret u =>
      obtain ⟨v, H2, I2, r2, it, ev, hit, young, eH⟩ := I1.after hq
      subst ev
      rw [eH] at I2
      cases r2
      have hat : upd H1 it (ItT t it) it = some (ItT t it) := upd_same
      have eo : s'.heap.get? it = some (tiO t) := (I2.hok it _ hat).1
      have st : s'.heap.IsTupleIter it t 0 := ⟨_, eo, rfl, rfl⟩
      unfold PySem.W.OwitIt
      refine wpAny_specialOf st.typeIs PySem.F.slot_tuple_iterator_next.lookup ?_
      have e : ItX.dropH (upd H1 it (ItT t it)) it = H1 := ItX.dropH_upd hit
      refine ⟨it, [it], _, Itt X.K t, H1, rfl, ?_, turn_tuple t it, st, fun b hb2 => ?_, q⟩
      · have z := ItX.inv_drop I2 hat
        rw [e] at z
        exact z
      · have eb : b = it := by simpa using hb2
        rw [eb]
        have z := ItX.inv_fp I2 hat (Nat.le_trans I1.sz young)
        rw [e] at z
        exact z
end
end L3
/-! L5c: own iteration as data; == of tuples of instances with an own ==. -/
namespace L3
open PySem L2
section
variable {c : Ctx} {ρ : List SD} {n : Nat} {te : TE}
theorem wi_own {C : Addr} {f : Str} {Φ : Nat → List D → Prop} (h : WE c te ρ n fun n1 d => ∃ ks ds, d = .obj C ks ∧ ks.lookup f = some (.tup ds) ∧ Φ n1 ds) : WI c (iOwn c.K C f te) ρ n Φ := fun P L σ H R E q => by
  refine h P L σ H _ E fun x d n1 H1 s1 j1 r1 ⟨ks, ds, e, el, k⟩ => ?_
  subst e
  cases r1 with
  | obj h1 hf =>
    obtain ⟨v, hv, rv⟩ := hf.look el
    cases rv with
    | tup hs ha => exact ⟨_, _, _, _, _, rfl, (hid_some.mp h1).2, hv, same_t same_hid hs, q _ _ n1 H1 s1 j1 (it_t hs ha) k⟩
/-- len of such an instance is not told here -/
def okE2 (K : PySem.W.Frag) (O : List Addr) (C : Addr) (good : List (Str × D) → Prop) (a b : Addr) (H : Hp) : Prop := (∀ o ∈ O, H o ≠ none) ∧ ∃ ks, good ks ∧ Rp K (hid O H) (.ref a) (.obj C ks) ∧ Rp K (hid O H) (.ref b) (.obj C ks)
theorem okE2_mon {K : PySem.W.Frag} {O : List Addr} {C : Addr} {good : List (Str × D) → Prop} (a b : Addr) (H H' : Hp) (e : Ext H H') (h : okE2 K O C good a b H) : okE2 K O C good a b H' := by
  obtain ⟨h1, ks, g, r1, r2⟩ := h
  refine ⟨fun o ho z => ?_, ks, g, r1.mono (same_hid_of e), r2.mono (same_hid_of e)⟩
  cases q : H o with
  | none => exact h1 o ho q
  | some u => rw [e o u q] at z; cases z
theorem fn_eq2 {P : Program} {w : World} {K : PySem.W.Frag} {mg : Str → Option Value} {base : Heap} {k : Nat} {f C : Addr} {fd : FuncData} {ps : List Str} {S : L3.Spec} {O : List Addr} {good : List (Str × D) → Prop} (F : FnOk P w K mg base CX0 k f fd ps (spD K S))
    (hS : ∀ ks, good ks → S none 0 [.obj C ks, .obj C ks] fun _ r => r = .bl true) : FnOk P w K mg base CX0 k f fd ps (spEq (okE2 K O C good)) := F.imp fun vs H Q E h => by
  obtain ⟨a, b, rfl, ⟨h1, ks, g, r1, r2⟩, q⟩ := h
  refine ⟨O, none, 0, _, _, (fun b q e => nomatch e), h1, .cons r1 (.cons r2 .nil), hS ks g, fun v d n' H' s j r e => ?_⟩
  subst e
  cases r
  refine q H' fun a o e => ?_
  have z : Same (hid [] H) (hid [] H') := s
  rw [hid_nil, hid_nil] at z
  exact z a o e
/-- x == y, two tuples of the same things, item by item by an own == -/
def rOwnT (K : PySem.W.Frag) (C : Addr) (good : List (Str × D) → Prop) : R2 := fun x y H Q => ∃ O, DTup K (DIns C (okE2 K O C good)) x y H ∧ ∀ H', Ext H H' → Q (.bl true) H'
theorem op_ownT {X : Cx} {C : Addr} {n f : Nat} {fd : FuncData} {ps : List Str} {S : L3.Spec} {E : XK} {good : List (Str × D) → Prop} (F : FnOk X.prog X.w X.K X.mg X.base CX0 n f fd ps (spD X.K S)) (hS : ∀ ks, good ks → S none 0 [.obj C ks, .obj C ks] fun _ r => r = .bl true)
    (T : OwnEqT X.K C f) (hr : Room (n + 1) X.A) (hb : Binds X.K fd ps []) (hx : Passes CX0 X E) : OpR X (compareOp .Eq) (rOwnT X.K C good) := by
  intro pins s σ H x y v u Q I rx ry ⟨O, d, q⟩
  exact op_eqG (rcG_tup (mon_ins okE2_mon) (eqG_ins (fn_eq2 (O := O) F hS) T.eq T.fn hb hx)) hr pins s σ H x y v u Q I rx ry ⟨d, q⟩
theorem rp_prs {K : PySem.W.Frag} {O : List Addr} {C : Addr} {good : List (Str × D) → Prop} {H : Hp} (hO : ∀ o ∈ O, H o ≠ none) : ∀ {vs ws : List V} {ds : List D}, (∀ d ∈ ds, ∃ ks, d = .obj C ks ∧ good ks) → RpAll K (hid O H) vs ds → RpAll K (hid O H) ws ds → Prs (DIns C (okE2 K O C good)) vs ws H
  | _, _, _, _, .nil, .nil => Prs.nil
  | _, _, _, hg, .cons h t, .cons h2 t2 => by
    refine Prs.cons ?_ (rp_prs hO (fun d hd => hg d (List.mem_cons_of_mem _ hd)) t t2)
    obtain ⟨ks, e, g⟩ := hg _ List.mem_cons_self
    subst e
    cases id h with
    | obj g1 f1 =>
      cases id h2 with
      | obj g2 f2 => exact ⟨_, _, _, _, _, _, rfl, rfl, (hid_some.mp g1).2, (hid_some.mp g2).2, hO, ks, g, h, h2⟩
theorem r2_ownT {K : PySem.W.Frag} {C : Addr} {good : List (Str × D) → Prop} {ds : List D} {Φ : D → Prop} (hg : ∀ d ∈ ds, ∃ ks, d = .obj C ks ∧ good ks) (k : Φ (.bl true)) : R2D K (rOwnT K C good) (.tup ds) (.tup ds) Φ := fun O H x y Q rx ry no q => by
  cases rx with
  | tup h1 r1 =>
    cases ry with
    | tup h2 r2 =>
      exact ⟨O, ⟨_, _, _, _, rfl, rfl, same_t same_hid h1, same_t same_hid h2, rp_prs (fun o ho e => no o e ho) hg r1 r2⟩, fun H' e => q _ _ H' e (.bl _) k⟩
end
end L3
/-! L5d: try with several clauses, each with a name for its error. -/
namespace L3
open PySem PySem.Spec PyProof.Rows L2
abbrev Sui := Addr → Value → Option Addr → TS
/-- what the clauses wish of an error, one after the other -/
def wAll (K : PySem.W.Frag) (Wout : WX) (D : Ends) : List (Value × Nat × Sui) → WX
  | [] => Wout
  | (c, i, ts) :: r => wAs K c i ts (wAll K Wout D r) D
inductive ClsOk (X : Cx) : List ExceptHandler → List (Value × Nat × Sui) → Prop
  | nil : ClsOk X [] []
  | cons {x nm : Str} {c : Value} {i : Nat} {ts : Sui} {b₀ : Stmt} {su : List Stmt} {np p' : Pos} {hds : List ExceptHandler} {l : List (Value × Nat × Sui)} (hi : X.N[i]? = some nm) (hln : X.env.kindOf nm = some .local) (hc : Names X x c)
      (hsu : ∀ (a : Addr) (oe : Obj) (cls : Value) (d : Option Addr) (pn : List (Addr × Obj)), Zc cls d oe → (∃ vs, oe.data = .fields vs) → PSs (X.suite a ((a, oe) :: pn)) (b₀ :: su) (ts a cls d)) (r : ClsOk X hds l) :
      ClsOk X (.ExceptHandler (some (.Name x np)) (some nm) (b₀ :: su) p' :: hds) ((c, i, ts) :: l)
section
variable {X : Cx} {body : List Stmt} {h₀ : ExceptHandler} {hds : List ExceptHandler} {l : List (Value × Nat × Sui)} {pos : Pos} {tb : WX → TS} {Wout : WX}
def tTryN (K : PySem.W.Frag) (l : List (Value × Nat × Sui)) (Wout : WX) (tb : WX → TS) : TS := fun D σ H => tb (wAll K Wout D l) D σ H
theorem ps_tryN {K : PySem.W.Frag} (hs : X.stack = X.env :: X.outer) (hf : X.env.frame = some X.env.locals) (hN : X.N.Nodup) (tk : Takes X Wout)
    (hb : ∀ (W : WX) (pn : List (Addr × Obj)) (xe : Value → Shared → Prop), Takes (X.tr pn xe) W → PassesOwn (model X.prog X.w) X.A X.env xe → PSs (X.tr pn xe) body (tb W))
    (hh : ClsOk X (h₀ :: hds) l) (hK : X.K = K := by rfl) : PS X (.Try body (h₀ :: hds) [] [] pos) (tTryN K l Wout tb) := by
  subst hK
  refine ⟨fun pins s σ H D I h => ?_⟩
  have good := I.ok
  have frA : X.A.frames = some (X.env :: X.outer) := good.frames.trans (by rw [hs])
  let xe' : Value → Shared → Prop := fun e t => wpAny (model X.prog X.w) X.A (noteFrame e X.env) (fun _ t2 => wpAny (model X.prog X.w) X.A (setFlight e none) (fun _ t3 => wpAny (model X.prog X.w) X.A (handleBy e X.env (h₀ :: hds)) (SP X pins D) X.xe t3) X.xe t2) X.xe t
  refine wpAny_Try_except ?_
  refine wpAny_mono ((hb (wAll X.K Wout D l) (X.pn ++ pins) xe' (fun u t caught => ?ca) PassesOwn.looking).run [] s σ H D (I.toTry _) h) (fun f t through => ?thru) (fun _ _ z => z)
  case thru =>
    cases f with
    | ret u => obtain ⟨v, σ1, H1, J, r, q⟩ := through; exact ⟨v, σ1, H1, J.ofTry good, r, q⟩
    | brk => obtain ⟨σ1, H1, J, q⟩ := through; exact ⟨σ1, H1, J.ofTry good, q⟩
    | cont => obtain ⟨σ1, H1, J, q⟩ := through; exact ⟨σ1, H1, J.ofTry good, q⟩
    | next => obtain ⟨σ1, H1, J, q⟩ := through; exact wpAny_execs_nil ⟨σ1, H1, J.ofTry good, q⟩
  case ca =>
    obtain ⟨a, B, t0, pins1, σ1, H1, cls, d, rfl, J0, nb, up1, sky, na, os, ag, wish⟩ := caught
    have J : L2.Inv X pins σ1 H1 t0 := J0.ofTry good
    have sky1 : Sky B (X.env :: X.outer) a (Zc cls d) X.env.locals t.heap := hs ▸ sky
    show wpAny (model X.prog X.w) X.A (noteFrame (.ref a) X.env) _ _ _
    refine Sky.land Zc.steady frA hf sky1 fun h2 fl2 up2 => ?_
    have J2 : L2.Inv X pins σ1 H1 { t with heap := h2 } := J.landed nb fl2.1 (up1.trans up2) os ag
    obtain ⟨o2, w2, e2, z2, d2⟩ := fl2.there
    have away : a ∉ frs (X.env :: X.outer) := fun hm => by
      obtain ⟨_, o', e', nf⟩ := fl2.2.2.1.mem hm
      rw [e2] at e'
      cases e'
      exact nf _ d2
    have nLoc : a ≠ X.env.locals := fun z => away (List.mem_filterMap.mpr ⟨X.env, List.mem_cons_self, by rw [hf, z]⟩)
    have nOut : a ∉ X.fs := fun hm => by
      obtain ⟨e, he, q⟩ := List.mem_filterMap.mp hm
      exact away (List.mem_filterMap.mpr ⟨e, List.mem_cons_of_mem _ he, q⟩)
    have S2 := J2.suite e2 d2 na nLoc nOut
    have each : ∀ {gs : List ExceptHandler} {ls : List (Value × Nat × Sui)}, ClsOk X gs ls → wAll X.K Wout D ls cls d σ1 H1 → wpAny (model X.prog X.w) X.A (handleBy (.ref a) X.env gs) (SP X pins D) X.xe { t with heap := h2 } := by
      intro gs ls hk
      induction hk with
      | nil =>
        intro wi
        refine wpAny_handleBy_nil ?_
        obtain ⟨_, _, _, _, _, T, _, _, he, _, hd, h1, _⟩ := id fl2
        unfold PySem.passOn
        refine wpAny_bind (wpAny_field he hd h1 ?_)
        rw [if_neg (show ¬ ((Value.ref T == Value.none) = true) from by simp)]
        have on : wpAny (model X.prog X.w) X.A (setFlight (.ref a) X.env.frame) (fun _ s4 => wpAny (model X.prog X.w) X.A (throw (.ref a) : Sem Flow) (SP X pins D) X.xe s4) X.xe { t with heap := h2 } := by
          rw [hf]
          exact HandSPX.setFlight_upZ fl2 fun h4 hh4 up4 => wpAny_throw (tk _ _ ⟨a, B, t0, pins, σ1, H1, cls, d, rfl, J, nb, (up1.trans up2).trans up4, .inr (.inr (by rw [hs]; exact hh4)), na, os, ag, wi⟩)
        first
          | exact wpAny_bind (wpAny_pure (wpAny_bind on))
          | exact wpAny_bind on
      | @cons x nm c i ts b₀ su np p' gs2 ls2 hi hln hc hsu r ih =>
        intro wi
        obtain ⟨b, hb1, yes, no⟩ := wi
        have isT : PySem.W.Looks (model X.prog X.w) h2 (typeOf (.ref a)) cls := fun A Q E s k q => wpAny_typeOf_ref (k _ _ e2) (by rw [z2.1]; exact q)
        have seen : ∀ {Q : Value → Shared → Prop} {E : Value → Shared → Prop}, Q c { t with heap := h2 } → wpAny (model X.prog X.w) (X.A.mark (some (.ref a))) (eval (.Name x np) X.env) Q E { t with heap := h2 } := fun {Q E} q => by
          obtain ⟨hg, hdb, g | ⟨g, hv, hnn⟩⟩ := hc
          · exact ld_glob (X := X.suite a ((a, o2) :: (X.pn ++ pins))) S2 hg g q hdb
          · exact ld_blt (X := X.suite a ((a, o2) :: (X.pn ++ pins))) S2 hg g hv q hnn hdb
        refine wpAny_handleBy_cons (codeAny_handlers_test (seen ((PySem.W.exm_one (M := model X.prog X.w) J2.kIn isT hb1).here ?_))) (fun q => nomatch q)
        cases b with
        | false => exact ih (no rfl)
        | true =>
          refine codeAny_handlers_suite_as (HandSPX.lands_againZ fl2 fun h4 fl4 up4 => ?_)
          have J4 : L2.Inv X pins σ1 H1 { t with heap := h4 } := J.landed nb fl4.1 ((up1.trans up2).trans up4) os ag
          obtain ⟨o4, w4, e4, z4, d4⟩ := fl4.there
          refine store_ok (X := X.suite a ((a, o4) :: (X.pn ++ pins))) (v := .ref a) (J4.suite e4 d4 na nLoc nOut) hN hi (.inl hln) rfl (fun s5 S5 => ?_) (.inr hln)
          have over : ∀ {s6 : Shared} {σ6 : L2.St} {H6 : Hp} {Q : Shared → Prop}, L2.Inv (X.suite a ((a, o4) :: (X.pn ++ pins))) [] σ6 H6 s6 → (∀ s7, L2.Inv X pins (σ6.set i none) H6 s7 → Q s7) →
              wpAny (model X.prog X.w) X.A (do bindName X.env nm .none; unbindBehindTheSuite X.env nm p') (fun _ s7 => Q s7) X.xe s6 := fun S6 hq => gone_ok (S6.unsuite good) hN hi hln hq
          refine wpAny_mono ((hsu a o4 cls d (X.pn ++ pins) z4 ⟨_, d4⟩).run [] s5 _ H1 _ S5 (yes rfl a na)) (fun f s6 done => ?_) (fun _ _ z => z.elim)
          cases f with
          | ret u => obtain ⟨v, σ6, H6, S6, r6, q6⟩ := done; exact over S6 fun s7 J7 => ⟨_, _, _, J7, r6, q6⟩
          | brk => obtain ⟨σ6, H6, S6, q6⟩ := done; exact over S6 fun s7 J7 => ⟨_, _, J7, q6⟩
          | cont => obtain ⟨σ6, H6, S6, q6⟩ := done; exact over S6 fun s7 J7 => ⟨_, _, J7, q6⟩
          | next => obtain ⟨σ6, H6, S6, q6⟩ := done; exact over S6 fun s7 J7 => ⟨_, _, J7, q6⟩
    exact each hh wish
end
section
variable {c : Ctx} {ρ : List SD} {n : Nat} {Ψ : Out} {tb : WX → TS} {Wout : WX} {Ξ : Er}
/-- the suite that takes an error of the class C with the fields ks -/
def Taken (c : Ctx) (Ψ : Out) (n' : Nat) (ρ' : List SD) (C : Addr) (ks : List (Str × D)) : List (Value × Nat × Sui) → Prop
  | [] => False
  | (cl, i, ts) :: r => (PySem.W.exmOne c.K (.ref C) cl = some true ∧ ∀ O' H0' dx a, Held { c with O := O', H0 := H0' } dx ks → WS { c with O := O', H0 := H0' } (ts a (.ref C) (some dx)) ((ρ'.map asd).set i (.val (.adr a))) n' (outU Ψ i)) ∨
      (PySem.W.exmOne c.K (.ref C) cl = some false ∧ Taken c Ψ n' ρ' C ks r)
theorem ws_tryN {l : List (Value × Nat × Sui)} (hb : ∀ O' H0', ∀ W, XA { c with O := O', H0 := H0' } W Ξ → WS { c with O := O', H0 := H0' } (tb W) (ρ.map asd) n Ψ) (hs : ∀ n' ρ' C ks, Ξ n' ρ' C ks → Taken c Ψ n' ρ' C ks l) : WS c (tTryN c.K l Wout tb) ρ n Ψ := fun P L σ H Dn E A => by
  refine hb (L ++ c.O) H _ ?_ (fun _ => none) [] σ H Dn E.re (A.re E)
  intro P2 L2 n2 H2 σ2 ρ2 C dx fs ks E2 hx hn hf kk
  have E3 : Env c P (L2 ++ L) n2 H2 σ2 ρ2 := E.back E2
  have eO : (L2 ++ L) ++ c.O = L2 ++ (L ++ c.O) := List.append_assoc _ _ _
  have hd : Held { c with O := (L2 ++ L) ++ c.O, H0 := H2 } dx ks := ⟨⟨fs, hx, by rw [eO]; exact hf⟩, by rw [eO]; exact hn⟩
  have go : ∀ l : List (Value × Nat × Sui), Taken c Ψ n2 ρ2 C ks l → wAll c.K Wout Dn l (.ref C) (some dx) σ2 H2 := by
    intro l
    induction l with
    | nil => exact fun z => z.elim
    | cons p r ih =>
      obtain ⟨cl, i, ts⟩ := p
      rintro (⟨he, hh⟩ | ⟨he, hh⟩)
      · refine ⟨true, he, fun _ a ha => ?_, fun z => nomatch z⟩
        refine hh _ _ dx a hd (fun _ => none) [] _ H2 _ (E3.re.set i (.adr a)) ?_
        exact { nx := fun L5 n5 H5 σ5 ρ5 E5 k => A.nx _ n5 H5 _ _ ((E3.back E5).unset i) k,
                rt := fun v d n5 H5 s j r k => A.rt v d n5 H5 (E3.base.trans s) j (r.mono (same_hid_sub fun a ha => List.mem_append_right _ ha)) k,
                bk := fun L5 n5 H5 σ5 ρ5 E5 k => A.bk _ n5 H5 _ _ ((E3.back E5).unset i) k,
                ct := fun L5 n5 H5 σ5 ρ5 E5 k => A.ct _ n5 H5 _ _ ((E3.back E5).unset i) k }
      · exact ⟨false, he, fun z => (nomatch z), fun _ => ih hh⟩
  exact go l (hs n2 ρ2 C ks kk)
end
end L3
namespace Toy
open PySem L2 L3
def top (i : Nat) : Stmt := PySem.Challenge.pw_askedtrue_k00_texts_of_orders_and_back.main.body.getD i (.Pass ⟨0, 0, 0, 0⟩)
structure Txt (mg : Str → Option Value) : Prop where
  b_len : mg "len" = none
  b_abs : mg "abs" = none
  b_sum : mg "sum" = none
  b_max : mg "max" = none
  b_min : mg "min" = none
  b_all : mg "all" = none
  b_any : mg "any" = none
  b_sorted : mg "sorted" = none
  b_isinstance : mg "isinstance" = none
  b_int : mg "int" = none
  b_bool : mg "bool" = none
  b_str : mg "str" = none
  b_list : mg "list" = none
  b_tuple : mg "tuple" = none
  b_range : mg "range" = none
  b_enumerate : mg "enumerate" = none
  b_dict : mg "dict" = none
theorem hu1 {k : Nat} {A : Around} (hr : Room k A) : A.units + 1 < cLine := by have := hr.un; omega
theorem hu65 {k : Nat} {A : Around} (hr : Room k A) : A.units + 65 < cLine := by have := hr.un; omega
section
variable {P : Program} {w : World} {K : PySem.W.Frag} {mg : Str → Option Value} {base : Heap}
/-! the draw -/
def spDraw : L3.Spec := fun bag n ds Φ => ∃ b q k, bag = some (b, q) ∧ ds = [.adr b, .int k] ∧ 0 < k ∧ k < 2 ^ 200 ∧ n < 2 ^ 60 ∧ ∀ r, 0 ≤ r → r < k → Φ (n + 1) (.int r)
abbrev s_law_draw : Stmt := top 24
abbrev N_law_draw : List Str := ["bag", "limit", "digit", "turn", "cells", "cell", "mixed"]
theorem sc_law_draw : FnScope N_law_draw ["bag", "limit"] (defScope s_law_draw) := ⟨rfl, rfl, rfl, by decide +kernel, rfl, by decide +kernel, by decide +kernel⟩

theorem upd3 {α : Type} (a b c x : α) : [a, b, c].set 2 x = [a, b, x] := rfl
theorem dec_gt {i j : Int} {A B : Prop} (h1 : j < i → A) (h2 : i ≤ j → B) : if decide (j < i) = true then A else B := by
  by_cases h : j < i
  · rw [if_pos (decide_eq_true h)]; exact h1 h
  · rw [if_neg (by simpa using h)]; exact h2 (by omega)
theorem ifs_ans {c : TT} {t u : TS} {D : Ends} {σ : L2.St} {H : Hp} (b : Bool) (hc : Ans c σ H b) (h1 : b = true → t D σ H) (h2 : b = false → u D σ H) : tIfS c t u D σ H := by
  refine hc _ ?_
  cases b with
  | true => exact h1 rfl
  | false => exact h2 rfl
theorem ok_draw {f : Addr} {fd : FuncData} (F : Fun K "_law_draw" "_law_draw" s_law_draw f fd) (T : Txt mg) : FnOk P w K mg base CX0 1 f fd ["bag", "limit"] (spD K spDraw) := by
  refine F.ok sc_law_draw (fun vs H Q E h => ?_) (fun cdv A outer s H vs Q E hr h => ?_)
  · obtain ⟨O, bag, n, ds, Φ, _, _, r, ⟨b, q, k, _, e, _⟩, _⟩ := h
    rw [r.length, e]; rfl
  · obtain ⟨O, bag, n, ds, Φ, hb, hO, r, ⟨b, q, k, e1, e2, k0, k1, hn, hk⟩, q0⟩ := h
    subst e1; subst e2
    obtain ⟨⟨t, r0, cs, h1, h2, h3, h4, h5, h6, h7, h8⟩, bO, qO, nqb⟩ := hb b q rfl
    obtain ⟨v1, v2, rfl, r1, r2⟩ := r.two
    cases r1
    cases r2
    have Qf : ∀ (x : Int) (t' r' : Int) (H' : Hp), 0 ≤ x → x < k → 0 ≤ t' → t' ≤ t + 1 → 0 ≤ r' → H' = upd H b (.lst [.ref q, .int t', .int r']) → Q (.int x) H' := fun x t' r' H' x0 xk t0 t1 r0 e => by
      subst e
      refine q0 _ (.int x) (n + 1) _ ?_ (fun b' q' e => ?_) (.int x) (hk x x0 xk)
      · show Same (hid [b] H) (hid [b] _)
        rw [hid_upd_in List.mem_cons_self]
        exact Same.refl _
      · cases e
        exact ⟨t', r', cs, upd_same, by rw [upd_ne nqb]; exact h2, h3, h4, h5, t0, by omega, r0⟩
    have hcl : 0 < cs.length := List.length_pos_iff.mpr h3
    have hlt : t.natAbs < 2 ^ 61 := by omega
    have hc63 : (cs.length : Int) ≤ 63 := by omega
    have kW : CDivW r0 k ∧ CDivW 0 k := by
      have : k.natAbs.log2 < 9000 := Nat.lt_of_lt_of_le (PySem.Flt.log2_lt_of (by decide) (show k.natAbs < 2 ^ 200 by omega)) (by decide)
      exact ⟨⟨k0, this⟩, ⟨k0, this⟩⟩
    refine ⟨_, (pss_cons (ps_if (pt_cmpR op_gt (pe_ix (x_ix K) (pv 0) pe_int (fun _ _ => rfl)) pe_int (nomark _)) (pss_cons (ps_set (i := 2) sc_law_draw.nd rfl (Or.inl rfl) (pe_op op_mod (pe_callTy call_intX (by rfl) T.b_int (by decide +kernel) (pa_cons (pe_ix (x_ix K) (pv 0) pe_int (fun _ _ => rfl)) pa_nil)) (pv 1)))
  (pss_cons (ps_asg (pe_op op_fdivW (pe_ix (x_ix K) (pv 0) pe_int (fun _ _ => rfl)) (pv 1)) (pg_sub (pv 0) pe_int set_list))
  (pss_one (ps_ret (pv 2))))) pss_nil)
  (pss_cons (ps_set (i := 3) sc_law_draw.nd rfl (Or.inl rfl) (pe_ix (x_ix K) (pv 0) pe_int (fun _ _ => rfl)))
  (pss_cons (ps_asg (pe_op (x_add K) (pv 3) pe_int) (pg_sub (pv 0) pe_int set_list))
  (pss_cons (ps_set (i := 4) sc_law_draw.nd rfl (Or.inl rfl) (pe_ix (x_ix K) (pv 0) pe_int (fun _ _ => rfl)))
  (pss_cons (ps_set (i := 5) sc_law_draw.nd rfl (Or.inl rfl) (pe_ix (x_ix K) (pv 4) (pe_op op_mod (pe_callTy call_intX (by rfl) T.b_int (by decide +kernel) (pa_cons (pv 3) pa_nil)) (pe_callB (x_len K) (by rfl) T.b_len (by decide +kernel) (pa_cons (pv 4) pa_nil))) (fun _ _ => rfl)))
  (pss_cons (ps_if (PW.pt (pw_and (pt_cmpR op_lt (pv 3) (pe_callB (x_len K) (by rfl) T.b_len (by decide +kernel) (pa_cons (pv 4) pa_nil)) (nomark _)) (pw_and1 (pt_cmpR op_ge (pv 5) (pe_op op_pow pe_int pe_int) (nomark _))))) (pss_cons (ps_asg (pe_op op_fdivW (pv 5) (pv 1)) (pg_sub (pv 0) pe_int set_list))
  (pss_one (ps_ret (pe_op op_mod (pe_callTy call_intX (by rfl) T.b_int (by decide +kernel) (pa_cons (pv 5) pa_nil)) (pv 1))))) pss_nil)
  (pss_cons (ps_set (i := 6) sc_law_draw.nd rfl (Or.inl rfl) (pe_op op_mod (pe_callTy call_intX (by rfl) T.b_int (by decide +kernel) (pa_cons (pe_op (x_add K) (pe_op (x_add K) (pe_op op_mul (pe_op (x_add K) (pv 5) pe_int) pe_int) (pe_op op_mul (pe_op op_mul (pv 3) (pv 3)) pe_int)) (pe_op op_mul (pv 3) pe_int)) pa_nil)) pe_int))
  (pss_cons (ps_set (i := 6) sc_law_draw.nd rfl (Or.inl rfl) (pe_op op_mod (pe_callTy call_intX (by rfl) T.b_int (by decide +kernel) (pa_cons (pe_op (x_add K) (pe_op op_mul (pv 6) pe_int) (pe_op op_mul (pe_op (x_add K) (pv 3) pe_int) pe_int)) pa_nil)) pe_int))
  (pss_one (ps_ret (pe_op op_mod (pe_callTy call_intX (by rfl) T.b_int (by decide +kernel) (pa_cons (pe_op op_fdivW (pv 6) pe_int) pa_nil)) (pv 1)))))))))))), ?_⟩
    refine ⟨_, rfl, .inl ⟨b, _, 2, .int r0, rfl, rfl, SqL.of h1, rfl, ?_⟩⟩
    refine ⟨r0, 0, rfl, rfl, _, rfl, ?_⟩
    refine dec_gt (fun hr0 => ?_) (fun hr0 => ?_)
    · refine ⟨_, rfl, .inl ⟨b, _, 2, .int r0, rfl, rfl, SqL.of h1, rfl, .inl ⟨r0, rfl, _, rfl, r0, k, rfl, rfl, k0, ?_⟩⟩⟩
      refine ⟨_, rfl, .inl ⟨b, _, 2, .int r0, rfl, rfl, SqL.of h1, rfl, _, rfl, r0, k, rfl, rfl, kW.1, ?_⟩⟩
      refine ⟨_, rfl, b, _, 2, 2, rfl, rfl, h1, rfl, _, rfl, ?_⟩
      exact Qf _ t (r0 / k) _ (Int.emod_nonneg _ (by omega)) (Int.emod_lt_of_pos _ k0) h6 (by omega) (Int.ediv_nonneg h8 (by omega)) rfl
    · refine ⟨_, rfl, .inl ⟨b, _, 1, .int t, rfl, rfl, SqL.of h1, rfl, ?_⟩⟩
      -- bag[1] = turn + 1
      refine ⟨_, rfl, .inl ⟨t, 1, rfl, rfl, _, rfl, b, _, 1, 1, rfl, rfl, h1, rfl, ?_⟩⟩
      have g1 : upd H b (.lst [.ref q, .int (t + 1), .int r0]) b = some (.lst [.ref q, .int (t + 1), .int r0]) := upd_same
      have g2 : upd H b (.lst [.ref q, .int (t + 1), .int r0]) q = some (.lst (cs.map V.int)) := by rw [upd_ne nqb]; exact h2
      -- cells = bag[0]; cell = cells[int(turn) % len(cells)]
      refine ⟨_, rfl, .inl ⟨b, _, 0, .ref q, rfl, rfl, SqL.of g1, rfl, ?_⟩⟩
      have hm0 : 0 ≤ t % (cs.length : Int) := Int.emod_nonneg _ (by omega)
      have hm1 : t % (cs.length : Int) < cs.length := Int.emod_lt_of_pos _ (by omega)
      obtain ⟨j, hj⟩ : ∃ j : Nat, t % (cs.length : Int) = j := ⟨(t % (cs.length : Int)).toNat, by omega⟩
      have hjl : j < cs.length := by omega
      have hat : atI (cs.map V.int) (t % (cs.length : Int)) = some (.int cs[j]) := by
        rw [hj]
        exact atI_nat (by rw [List.getElem?_map, List.getElem?_eq_getElem hjl]; rfl)
      have hc0 : 0 ≤ cs[j] := h4 _ (List.getElem_mem hjl)
      refine ⟨_, rfl, _, rfl, .inl ⟨t, rfl, _, rfl, .inl ⟨q, _, rfl, .inl (SqL.of g2), t, _, rfl, rfl, (by rw [List.length_map]; omega), ?_⟩⟩⟩
      refine .inl ⟨q, _, _, .int cs[j], rfl, rfl, SqL.of g2, by rw [List.length_map]; exact hat, ?_⟩
      generalize hcell : cs[j] = cell at hc0
      have fin : ∀ m : Int, 0 ≤ m % k ∧ m % k < k := fun m => ⟨Int.emod_nonneg _ (by omega), Int.emod_lt_of_pos _ k0⟩
      have tB : -(2 ^ 64) < t ∧ t < 2 ^ 64 := by omega
      unfold gName
      dsimp only
      refine st_seq ?_
      refine ifs_ans (decide (t < cs.length) && decide (10 ^ 18 ≤ cell)) (ans_and2 (fun Q' q' => ⟨_, rfl, _, rfl, .inl ⟨q, _, rfl, .inl (SqL.of g2), t, _, rfl, rfl, _, rfl, by rw [List.length_map]; exact q'⟩⟩) (fun Q' q' => ⟨_, rfl, 10, 18, rfl, rfl, ⟨by decide, by decide, by decide⟩, _, _, rfl, rfl, _, rfl, q'⟩)) (fun hb1 => ?_) (fun hb1 => ?_)
      · have kc : CDivW cell k := ⟨k0, kW.1.2⟩
        refine ⟨_, rfl, _, rfl, cell, k, rfl, rfl, kc, ?_⟩
        refine ⟨_, rfl, b, _, 2, 2, rfl, rfl, g1, rfl, _, rfl, .inl ⟨cell, rfl, _, rfl, cell, k, rfl, rfl, k0, ?_⟩⟩
        refine Qf _ (t + 1) (cell / k) _ (fin cell).1 (fin cell).2 (by omega) (by omega) (Int.ediv_nonneg hc0 (by omega)) ?_
        rw [upd_upd]; rfl
      · refine ⟨_, rfl, .inl ⟨cell, 17, rfl, rfl, _, _, rfl, rfl, .inr (by decide), ?_⟩⟩
        refine ⟨_, rfl, _, rfl, t, t, rfl, rfl, .inl tB, _, _, rfl, rfl, .inr (by decide), .inl ⟨_, _, rfl, rfl, ?_⟩⟩
        refine ⟨_, rfl, _, _, rfl, rfl, .inr (by decide), .inl ⟨_, _, rfl, rfl, .inl ⟨_, rfl, _, _, rfl, rfl, (by show (0 : Int) < 2147483647; decide), ?_⟩⟩⟩
        refine ⟨_, rfl, _, _, rfl, rfl, .inr (by decide), _, rfl, .inl ⟨t, 3, rfl, rfl, _, _, rfl, rfl, .inr (by decide), .inl ⟨_, _, rfl, rfl, .inl ⟨_, rfl, _, _, rfl, rfl, (by show (0 : Int) < 2147483399; decide), ?_⟩⟩⟩⟩
        refine ⟨_, rfl, _, _, rfl, rfl, ⟨by decide, by decide +kernel⟩, .inl ⟨_, rfl, _, rfl, _, _, rfl, rfl, k0, ?_⟩⟩
        exact Qf _ (t + 1) r0 _ (fin _).1 (fin _).2 (by omega) (by omega) h8 rfl
end
end Toy
namespace Toy
open PySem L2 L3
/-! ### the data: entries, copies -/
structure Ent where
  nm : Str
  ks : List Int
  v : Int
  deriving DecidableEq
def entD (e : Ent) : D := .tup [.str e.nm, .tup (e.ks.map .int), .int e.v]
def copyD (es : List Ent) : D := .tup (es.map entD)
def keyO : Option (List Int) → D
  | none => .non
  | some ks => .tup (ks.map .int)
/-- what fits the model: names without odd signs, keys not too long -/
def okE (e : Ent) : Prop := fit (entD e) = true ∧ keyD (entD e) = true
theorem eq_ints : ∀ (a b : List Int), PyData.eqvAll (dpyAll (a.map D.int)) (dpyAll (b.map D.int)) = decide (a = b)
  | [], [] => by simp [dpyAll, PyData.eqvAll]
  | [], _ :: _ => by simp [dpyAll, PyData.eqvAll]
  | _ :: _, [] => by simp [dpyAll, PyData.eqvAll]
  | x :: a, y :: b => by
    have ih := eq_ints a b
    show ((x == y) && PyData.eqvAll (dpyAll (a.map D.int)) (dpyAll (b.map D.int))) = _
    rw [ih]
    by_cases h : x = y
    · subst h; by_cases h2 : a = b <;> simp [h2]
    · simp [h]
theorem eq_str (a b : Str) : eqD (.str a) (.str b) = decide (a = b) := by
  show (a == b) = decide (a = b)
  by_cases h : a = b <;> simp [h]
theorem eq_tupI (a b : List Int) : eqD (.tup (a.map .int)) (.tup (b.map .int)) = decide (a = b) := eq_ints a b
theorem eq_ent (a b : Ent) : eqD (entD a) (entD b) = decide (a = b) := by
  have h1 : eqD (entD a) (entD b) = ((a.nm == b.nm) && (PyData.eqvAll (dpyAll (a.ks.map D.int)) (dpyAll (b.ks.map D.int)) && ((a.v == b.v) && true))) := rfl
  rw [h1, eq_ints]
  obtain ⟨n1, k1, v1⟩ := a
  obtain ⟨n2, k2, v2⟩ := b
  by_cases e1 : n1 = n2 <;> by_cases e2 : k1 = k2 <;> by_cases e3 : v1 = v2 <;> simp [e1, e2, e3]
theorem fitAll_mem {ds : List D} {d : D} (h : fit (.tup ds) = true) (hd : d ∈ ds) : fit d = true := by
  have hp := fit_p h
  have hs := fit_s h
  unfold fit
  rw [Bool.and_eq_true]
  refine ⟨plainAll_mem hp hd, ?_⟩
  unfold SeqAt.shaped at hs ⊢
  rw [Bool.and_eq_true] at hs ⊢
  have hc : PyData.canLayAll0 (dpyAll ds) = true := hs.1
  have hdp : PyData.depthAll (dpyAll ds) + 1 ≤ 64 := of_decide_eq_true hs.2
  have key : ∀ ds : List D, d ∈ ds → PyData.canLayAll0 (dpyAll ds) = true → PyData.canLay0 (dpy d) = true ∧ PyData.depth (dpy d) ≤ PyData.depthAll (dpyAll ds) := by
    intro ds
    induction ds with
    | nil => intro q; cases q
    | cons x xs ih =>
      intro q hc
      have hc' : (PyData.canLay0 (dpy x) && PyData.canLayAll0 (dpyAll xs)) = true := hc
      rw [Bool.and_eq_true] at hc'
      show _ ∧ _ ≤ max (PyData.depth (dpy x)) (PyData.depthAll (dpyAll xs))
      rcases List.mem_cons.mp q with e | e
      · rw [e]; exact ⟨hc'.1, by omega⟩
      · obtain ⟨g1, g2⟩ := ih e hc'.2
        exact ⟨g1, by omega⟩
  obtain ⟨g1, g2⟩ := key ds hd hc
  exact ⟨g1, decide_eq_true (by omega)⟩
theorem ok_nm {e : Ent} (h : okE e) : fit (.str e.nm) = true := fitAll_mem h.1 (by simp)
theorem ok_ks {e : Ent} (h : okE e) : fit (.tup (e.ks.map .int)) = true := fitAll_mem h.1 (by simp)
/-! ### plain lists -/
section
variable {α : Type} [DecidableEq α]
def firsts (l : List α) : List α := l.foldl (fun acc x => if x ∈ acc then acc else acc ++ [x]) []
theorem firsts_snoc (l : List α) (x : α) : firsts (l ++ [x]) = if x ∈ firsts l then firsts l else firsts l ++ [x] := by
  unfold firsts
  rw [List.foldl_append]; rfl
theorem snoc_ind {P : List α → Prop} (h0 : P []) (h1 : ∀ l x, P l → P (l ++ [x])) (l : List α) : P l := by
  have : ∀ m : List α, P m.reverse := by
    intro m
    induction m with
    | nil => exact h0
    | cons x m ih => rw [List.reverse_cons]; exact h1 _ _ ih
  have q := this l.reverse
  rw [List.reverse_reverse] at q
  exact q
theorem mem_firsts (l : List α) : ∀ x, x ∈ firsts l ↔ x ∈ l := by
  refine snoc_ind (P := fun l => ∀ x, x ∈ firsts l ↔ x ∈ l) (fun x => Iff.rfl) (fun l y ih x => ?_) l
  rw [firsts_snoc]
  by_cases h : y ∈ firsts l
  · rw [if_pos h, ih]
    constructor
    · exact fun q => List.mem_append_left _ q
    · intro q
      rcases List.mem_append.mp q with q | q
      · exact q
      · rw [List.mem_singleton.mp q]; exact (ih y).mp h
  · rw [if_neg h]
    simp [ih]
theorem nodup_firsts (l : List α) : (firsts l).Nodup := by
  refine snoc_ind (P := fun l => (firsts l).Nodup) List.nodup_nil (fun l y ih => ?_) l
  rw [firsts_snoc]
  by_cases h : y ∈ firsts l
  · rw [if_pos h]; exact ih
  · rw [if_neg h]
    exact List.nodup_append.mpr ⟨ih, by simp, fun a ha b hb => by rw [List.mem_singleton.mp hb]; exact fun e => h (e ▸ ha)⟩
theorem firsts_le (l : List α) : (firsts l).length ≤ l.length := by
  refine snoc_ind (P := fun l => (firsts l).length ≤ l.length) (Nat.le_refl _) (fun l y ih => ?_) l
  rw [firsts_snoc, List.length_append]
  by_cases h : y ∈ firsts l
  · rw [if_pos h]; simp; omega
  · rw [if_neg h, List.length_append]; simp; omega
/-- those that do not stand earlier -/
def earliest : List α → List α → List α
  | _, [] => []
  | pre, x :: l => if x ∈ pre then earliest (pre ++ [x]) l else x :: earliest (pre ++ [x]) l
theorem mem_earliest : ∀ (l pre : List α) (x : α), x ∈ earliest pre l ↔ x ∈ l ∧ x ∉ pre
  | [], pre, x => by simp [earliest]
  | y :: l, pre, x => by
    unfold earliest
    have ih := mem_earliest l (pre ++ [y]) x
    by_cases h : y ∈ pre
    · rw [if_pos h, ih]
      constructor
      · rintro ⟨a, b⟩
        exact ⟨List.mem_cons_of_mem _ a, fun q => b (List.mem_append_left _ q)⟩
      · rintro ⟨a, b⟩
        have ne : x ≠ y := fun e => b (e ▸ h)
        refine ⟨(List.mem_cons.mp a).resolve_left ne, fun q => ?_⟩
        rcases List.mem_append.mp q with q | q
        · exact b q
        · exact ne (List.mem_singleton.mp q)
    · rw [if_neg h, List.mem_cons, ih]
      constructor
      · rintro (e | ⟨a, b⟩)
        · subst e; exact ⟨List.mem_cons_self, h⟩
        · exact ⟨List.mem_cons_of_mem _ a, fun q => b (List.mem_append_left _ q)⟩
      · rintro ⟨a, b⟩
        by_cases e : x = y
        · exact .inl e
        · refine .inr ⟨(List.mem_cons.mp a).resolve_left e, fun q => ?_⟩
          rcases List.mem_append.mp q with q | q
          · exact b q
          · exact e (List.mem_singleton.mp q)
theorem nodup_earliest : ∀ (l pre : List α), (earliest pre l).Nodup
  | [], _ => List.nodup_nil
  | y :: l, pre => by
    unfold earliest
    by_cases h : y ∈ pre
    · rw [if_pos h]; exact nodup_earliest l _
    · rw [if_neg h]
      exact List.nodup_cons.mpr ⟨fun q => ((mem_earliest l _ _).mp q).2 (by simp), nodup_earliest l _⟩
theorem sub_earliest : ∀ (l pre : List α), (earliest pre l).Sublist l
  | [], _ => List.Sublist.refl _
  | y :: l, pre => by
    unfold earliest
    by_cases h : y ∈ pre
    · rw [if_pos h]; exact (sub_earliest l _).cons _
    · rw [if_neg h]; exact (sub_earliest l _).cons_cons _
end
/-! ### the order of entries -/
abbrev leE (a b : Ent) : Bool := LeD (entD a) (entD b)
def sortE (E : List Ent) : List Ent := E.mergeSort leE
theorem total_D : PySem.W.TotalLe LeD := PySem.W.sortLe_total _ _ _
theorem total_E : PySem.W.TotalLe leE := ⟨fun a b c h1 h2 => total_D.trans _ _ _ h1 h2, fun a b => total_D.total _ _⟩
theorem toks_ints : ∀ (a b : List Int) (A B : List (Int ⊕ List Nat)), PySem.W.keyToksAll (dpyAll (a.map D.int)) ++ A = PySem.W.keyToksAll (dpyAll (b.map D.int)) ++ B → a = b ∧ A = B
  | [], [], A, B, h => by
    have h' : Sum.inl 0 :: A = Sum.inl 0 :: B := h
    exact ⟨rfl, (List.cons.inj h').2⟩
  | [], y :: b, A, B, h => by
    have h' : (Sum.inl 0 : Int ⊕ List Nat) :: A = Sum.inl 1 :: (Sum.inl y :: (PySem.W.keyToksAll (dpyAll (b.map D.int)) ++ B)) := h
    exact absurd (Sum.inl.inj (List.cons.inj h').1) (by decide)
  | x :: a, [], A, B, h => by
    have h' : (Sum.inl 1 : Int ⊕ List Nat) :: (Sum.inl x :: (PySem.W.keyToksAll (dpyAll (a.map D.int)) ++ A)) = Sum.inl 0 :: B := h
    exact absurd (Sum.inl.inj (List.cons.inj h').1) (by decide)
  | x :: a, y :: b, A, B, h => by
    have h' : (Sum.inl 1 : Int ⊕ List Nat) :: (Sum.inl x :: (PySem.W.keyToksAll (dpyAll (a.map D.int)) ++ A)) = Sum.inl 1 :: (Sum.inl y :: (PySem.W.keyToksAll (dpyAll (b.map D.int)) ++ B)) := h
    have h1 := (List.cons.inj h').2
    have h2 := List.cons.inj h1
    obtain ⟨e1, e2⟩ := toks_ints a b A B h2.2
    exact ⟨by rw [Sum.inl.inj h2.1, e1], e2⟩
theorem anti_E (a b : Ent) (h1 : leE a b = true) (h2 : leE b a = true) : a = b := by
  have h1' : (!PySem.W.dataLt (dpy (entD b)) (dpy (entD a))) = true := h1
  have h2' : (!PySem.W.dataLt (dpy (entD a)) (dpy (entD b))) = true := h2
  have h1'' : PySem.W.dataLt (dpy (entD b)) (dpy (entD a)) = false := by simpa using h1'
  have h2'' : PySem.W.dataLt (dpy (entD a)) (dpy (entD b)) = false := by simpa using h2'
  have e : PySem.W.keyToks (dpy (entD a)) = PySem.W.keyToks (dpy (entD b)) := (PyProof.Rows.listOrd PyProof.Rows.itemOrd).total _ _ h2'' h1''
  have e' : Sum.inl 1 :: Sum.inr a.nm.cps.toList :: Sum.inl 1 :: (PySem.W.keyToksAll (dpyAll (a.ks.map D.int)) ++ (Sum.inl 1 :: Sum.inl a.v :: [Sum.inl 0])) = (Sum.inl 1 :: Sum.inr b.nm.cps.toList :: Sum.inl 1 :: (PySem.W.keyToksAll (dpyAll (b.ks.map D.int)) ++ (Sum.inl 1 :: Sum.inl b.v :: [Sum.inl 0])) : List (Int ⊕ List Nat)) := e
  have e1 := List.cons.inj (List.cons.inj e').2
  obtain ⟨g1, g2⟩ := toks_ints _ _ _ _ (List.cons.inj e1.2).2
  have g3 := List.cons.inj (List.cons.inj g2).2
  obtain ⟨n1, k1, v1⟩ := a
  obtain ⟨n2, k2, v2⟩ := b
  have q1 : n1 = n2 := PySem.W.str_of_cps (Sum.inr.inj e1.1)
  have q2 : k1 = k2 := g1
  have q3 : v1 = v2 := Sum.inl.inj g3.1
  rw [q1, q2, q3]
theorem sortE_perm (E : List Ent) : (sortE E).Perm E := List.mergeSort_perm _ _
theorem sortE_sorted (E : List Ent) : (sortE E).Pairwise fun a b => leE a b = true := PySem.W.sort_pairwise total_E E
/-- two rising rows with the same, each once, are one -/
theorem one_row {l m : List Ent} (h1 : l.Pairwise fun a b => leE a b = true) (h2 : m.Pairwise fun a b => leE a b = true) (n1 : l.Nodup) (n2 : m.Nodup) (e : ∀ x, x ∈ l ↔ x ∈ m) : l = m := by
  have p : l.Perm m := (List.perm_ext_iff_of_nodup n1 n2).mpr e
  exact p.eq_of_pairwise (fun a b _ _ x y => anti_E a b x y) h1 h2
theorem earliest_sort (E : List Ent) : earliest [] (sortE E) = sortE (firsts E) := by
  refine one_row ((sortE_sorted E).sublist (sub_earliest _ _)) (sortE_sorted _) (nodup_earliest _ _) ((sortE_perm _).nodup_iff.mpr (nodup_firsts E)) fun x => ?_
  rw [mem_earliest, (sortE_perm E).mem_iff, (sortE_perm (firsts E)).mem_iff, mem_firsts]
  simp
theorem sortD_ent (E : List Ent) : sortD (E.map entD) = (sortE E).map entD := (PySem.W.sort_maps (r := leE) (s := LeD) entD fun _ _ _ _ => rfl).symm
theorem alike_E (E : List Ent) : PySem.W.AllAlike ((E.map entD).map dpy) := by
  rw [List.map_map]
  refine PySem.W.AllAlike.of fun a b => ?_
  have h : PySem.W.alike (dpy (entD a)) (dpy (entD b)) = (true && (PySem.W.alikeAll (dpyAll (a.ks.map D.int)) (dpyAll (b.ks.map D.int)) && (true && true))) := rfl
  show PySem.W.alike (dpy (entD a)) (dpy (entD b)) = true
  rw [h, dpyAll_map, dpyAll_map, List.map_map, List.map_map]
  have := PySem.W.alike_ints a.ks b.ks
  have e : (dpy ∘ D.int) = PyData.int := rfl
  rw [e, this]; rfl
theorem sortable_E (E : List Ent) : PySem.W.Sortable ((E.map entD).map dpy) := by
  rw [List.map_map]
  exact PySem.W.Sortable.tuples fun b => ⟨_, _, rfl⟩
theorem depth_E (e : Ent) : (dpy (entD e)).depth ≤ 2 := by
  have h : (dpy (entD e)).depth = max 0 (max (PyData.depthAll (dpyAll (e.ks.map D.int)) + 1) (max 0 0)) + 1 := rfl
  have h2 : PyData.depthAll (dpyAll (e.ks.map D.int)) = 0 := by
    rw [dpyAll_map, List.map_map]
    exact PySem.W.depth_ints e.ks
  rw [h, h2]; decide
theorem fit_ents {E : List Ent} (h : ∀ e ∈ E, okE e) : fit (.lst (E.map entD)) = true := (fit_list fun d hd => by
  obtain ⟨e, he, rfl⟩ := List.mem_map.mp hd
  exact ⟨(h e he).1, Nat.le_trans (depth_E e) (by decide)⟩).1
theorem plain_ents (E : List Ent) : plainAll (E.map entD) = true := by
  have hInts : ∀ ks : List Int, plainAll (ks.map D.int) = true := fun ks => by
    induction ks with
    | nil => rfl
    | cons k ks ih => show (true && plainAll (ks.map D.int)) = true; rw [ih]; rfl
  induction E with
  | nil => rfl
  | cons e E ih =>
    have h : plainAll ((e :: E).map entD) = ((true && (plainAll (e.ks.map D.int) && (true && true))) && plainAll (E.map entD)) := rfl
    rw [h, hInts, ih]; rfl
theorem inD_ent (e : Ent) (E : List Ent) : inD (entD e) (E.map entD) = decide (e ∈ E) := by
  unfold inD
  rw [List.any_map]
  by_cases h : e ∈ E
  · rw [decide_eq_true h]
    exact List.any_eq_true.mpr ⟨e, h, by show eqD (entD e) (entD e) = true; rw [eq_ent]; simp⟩
  · rw [decide_eq_false h]
    refine List.any_eq_false.mpr fun x hx => ?_
    show ¬ eqD (entD x) (entD e) = true
    rw [eq_ent]
    simp only [decide_eq_true_eq]
    exact fun q => h (q ▸ hx)
theorem count_ent (e : Ent) (E : List Ent) : (E.map entD).countP (fun z => eqD z (entD e)) = E.count e := by
  rw [List.countP_map]
  unfold List.count
  refine List.countP_congr fun x _ => ?_
  show eqD (entD x) (entD e) = true ↔ (x == e) = true
  rw [eq_ent]; simp
/-! ### the dict of numbers -/
theorem nk_ints : ∀ (a b : List Int), nkAll (a.map D.int) = nkAll (b.map D.int) → a = b
  | [], [], _ => rfl
  | [], _ :: _, h => by cases h
  | _ :: _, [], h => by cases h
  | x :: a, y :: b, h => by
    have h' : NestedKey.num x :: nkAll (a.map D.int) = NestedKey.num y :: nkAll (b.map D.int) := h
    obtain ⟨h1, h2⟩ := List.cons.inj h'
    rw [NestedKey.num.inj h1, nk_ints a b h2]
theorem nk_ent (a b : Ent) : nk (entD a) = nk (entD b) ↔ a = b := by
  constructor
  · intro h
    have h' : NestedKey.tup [.text a.nm, .tup (nkAll (a.ks.map D.int)), .num a.v] = NestedKey.tup [.text b.nm, .tup (nkAll (b.ks.map D.int)), .num b.v] := h
    have h1 := NestedKey.tup.inj h'
    have h2 := List.cons.inj h1
    have h3 := List.cons.inj h2.2
    have h4 := List.cons.inj h3.2
    obtain ⟨n1, k1, v1⟩ := a
    obtain ⟨n2, k2, v2⟩ := b
    have q1 : n1 = n2 := NestedKey.text.inj h2.1
    have q2 : k1 = k2 := nk_ints _ _ (NestedKey.tup.inj h3.1)
    have q3 : v1 = v2 := NestedKey.num.inj h4.1
    rw [q1, q2, q3]
  · intro h; rw [h]
def kvOf (E : List Ent) : List (D × D) := (firsts E).map fun e => (entD e, D.int (E.count e : Nat))
theorem look_map (f : Ent → D) (x : Ent) : ∀ (l : List Ent), lookD (l.map fun e => (entD e, f e)) (entD x) = if x ∈ l then some (f x) else none
  | [] => rfl
  | y :: l => by
    have ih := look_map f x l
    unfold lookD at ih ⊢
    rw [List.map_cons]
    by_cases h : y = x
    · subst h
      rw [List.find?_cons_of_pos (by simp), if_pos List.mem_cons_self]; rfl
    · rw [List.find?_cons_of_neg (by simpa [nk_ent] using h), ih]
      have : (x ∈ y :: l) ↔ x ∈ l := by
        rw [List.mem_cons]
        exact ⟨fun q => q.resolve_left fun e => h e.symm, .inr⟩
      by_cases q : x ∈ l
      · rw [if_pos q, if_pos (this.mpr q)]
      · rw [if_neg q, if_neg fun z => q (this.mp z)]
theorem look_kv (E : List Ent) (x : Ent) : lookD (kvOf E) (entD x) = if x ∈ E then some (.int (E.count x : Nat)) else none := by
  unfold kvOf
  rw [look_map (fun e => D.int (E.count e : Nat))]
  by_cases h : x ∈ E
  · rw [if_pos h, if_pos ((mem_firsts E x).mpr h)]
  · rw [if_neg h, if_neg fun q => h ((mem_firsts E x).mp q)]
theorem get_kv (E : List Ent) (x : Ent) : (lookD (kvOf E) (entD x)).getD (.int 0) = .int (E.count x : Nat) := by
  rw [look_kv]
  by_cases h : x ∈ E
  · rw [if_pos h]; rfl
  · rw [if_neg h, List.count_eq_zero_of_not_mem h]; rfl
theorem put_kv (E : List Ent) (x : Ent) : putD (kvOf E) (entD x) (.int ((E.count x : Nat) + 1)) = kvOf (E ++ [x]) := by
  unfold putD
  rw [look_kv]
  have cnt : ∀ e : Ent, (E ++ [x]).count e = E.count e + if x = e then 1 else 0 := fun e => by
    rw [List.count_append, List.count_singleton]
    by_cases h : x = e <;> simp [h]
  by_cases h : x ∈ E
  · rw [if_pos h]
    show List.map _ (kvOf E) = _
    unfold kvOf
    rw [firsts_snoc, if_pos ((mem_firsts E x).mpr h), List.map_map]
    refine List.map_congr_left fun e _ => ?_
    show (if nk (entD e) = nk (entD x) then (entD e, D.int ((E.count x : Nat) + 1)) else (entD e, D.int (E.count e : Nat))) = (entD e, D.int ((E ++ [x]).count e : Nat))
    rw [cnt]
    by_cases q : e = x
    · subst q
      rw [if_pos rfl, if_pos rfl]; rfl
    · rw [if_neg fun z => q ((nk_ent _ _).mp z), if_neg fun z => q z.symm]; rfl
  · rw [if_neg h]
    show kvOf E ++ [(entD x, D.int ((E.count x : Nat) + 1))] = _
    unfold kvOf
    rw [firsts_snoc, if_neg fun q => h ((mem_firsts E x).mp q), List.map_append]
    congr 1
    · refine List.map_congr_left fun e he => ?_
      rw [cnt, if_neg fun z => h (by rw [z]; exact (mem_firsts E e).mp he)]; rfl
    · show [(entD x, D.int ((E.count x : Nat) + 1))] = [(entD x, D.int ((E ++ [x]).count x : Nat))]
      rw [cnt, if_pos rfl]; rfl
theorem kv_keys (E : List Ent) : (kvOf E).map (·.1) = (firsts E).map entD := by
  unfold kvOf
  rw [List.map_map]; rfl
theorem plain_ints : ∀ ks : List Int, plainAll (ks.map D.int) = true
  | [] => rfl
  | k :: ks => by show (true && plainAll (ks.map D.int)) = true; rw [plain_ints ks]; rfl
theorem can_ints : ∀ ks : List Int, PyData.canLayAll0 (dpyAll (ks.map D.int)) = true
  | [] => rfl
  | k :: ks => by show (true && PyData.canLayAll0 (dpyAll (ks.map D.int))) = true; rw [can_ints ks]; rfl
theorem key_ints : ∀ ks : List Int, nkOkAll (ks.map D.int) = true
  | [] => rfl
  | k :: ks => by show (true && nkOkAll (ks.map D.int)) = true; rw [key_ints ks]; rfl
theorem dep_ints : ∀ ks : List Int, PyData.depthAll (dpyAll (ks.map D.int)) = 0
  | [] => rfl
  | k :: ks => by show max 0 (PyData.depthAll (dpyAll (ks.map D.int))) = 0; rw [dep_ints ks]; rfl
theorem ndep_ints : ∀ ks : List Int, NestedKey.depthAll (nkAll (ks.map D.int)) = 0
  | [] => rfl
  | k :: ks => by show max 0 (NestedKey.depthAll (nkAll (ks.map D.int))) = 0; rw [ndep_ints ks]; rfl
theorem fit_ints (ks : List Int) : fit (.tup (ks.map D.int)) = true := by
  have h : fit (.tup (ks.map D.int)) = (plainAll (ks.map D.int) && (PyData.canLayAll0 (dpyAll (ks.map D.int)) && decide (PyData.depthAll (dpyAll (ks.map D.int)) + 1 ≤ 64))) := rfl
  rw [h, plain_ints, can_ints, dep_ints]; rfl
theorem ok_of {nm : Str} (hn : fit (.str nm) = true) (ks : List Int) (v : Int) : okE ⟨nm, ks, v⟩ := by
  refine ⟨(fit_list (ds := [.str nm, .tup (ks.map .int), .int v]) fun d hd => ?_).2, ?_⟩
  · rcases List.mem_cons.mp hd with e | hd
    · subst e; exact ⟨hn, Nat.zero_le _⟩
    · rcases List.mem_cons.mp hd with e | hd
      · subst e
        refine ⟨fit_ints ks, ?_⟩
        show PyData.depthAll (dpyAll (ks.map D.int)) + 1 ≤ 60
        rw [dep_ints]; decide
      · rcases List.mem_cons.mp hd with e | hd
        · subst e; exact ⟨rfl, Nat.zero_le _⟩
        · cases hd
  · have h : keyD (entD ⟨nm, ks, v⟩) = ((true && (nkOkAll (ks.map D.int) && (true && true))) && decide (max 0 (max (NestedKey.depthAll (nkAll (ks.map D.int)) + 1) (max 0 0)) + 1 ≤ 8)) := rfl
    rw [h, key_ints, ndep_ints]; rfl
end Toy
namespace L3
open PySem L2
theorem ws_cut {c : Ctx} {ρ : List SD} {n : Nat} {ts us : TS} {Ψ : Out} (Nx : Nat → List SD → Prop) (h : WS c ts ρ n { nx := Nx, rt := fun _ _ => False }) (k : ∀ n1 ρ1, Nx n1 ρ1 → WS c us ρ1 n1 Ψ) : WS c (tSeq ts us) ρ n Ψ :=
  ws_seq (h.mono (fun n1 ρ1 q => k n1 ρ1 q) (fun _ _ q => q.elim) (fun _ _ q => q.elim) (fun _ _ q => q.elim))
theorem ws_cut2 {c : Ctx} {ρ : List SD} {n : Nat} {ts us : TS} {Ψ : Out} (Nx : Nat → List SD → Prop) (h : WS c ts ρ n { nx := Nx, rt := Ψ.rt }) (k : ∀ n1 ρ1, Nx n1 ρ1 → WS c us ρ1 n1 Ψ) : WS c (tSeq ts us) ρ n Ψ :=
  ws_seq (h.mono (fun n1 ρ1 q => k n1 ρ1 q) (fun _ _ q => q) (fun _ _ q => q.elim) (fun _ _ q => q.elim))
end L3
namespace Toy
open PySem L2 L3
local macro_rules | `(tactic| walk_at "we1") => `(tactic| first
  | ((with_reducible refine' we_var ?hv ?_); (case hv => rfl))
  | (with_reducible refine we_int ?_)
  | (with_reducible refine we_str ?_)
  | (with_reducible refine we_bl ?_)
  | (with_reducible refine we_non ?_)
  | ((with_reducible refine' we_dix ?hv ?_); (case hv => rfl))
  | (with_reducible refine we_op ?_)
  | ((with_reducible refine' we_dget ?hv ?_); (case hv => rfl))
  | (with_reducible refine we_count ?_)
  | (with_reducible refine we_cb ?_)
  | (with_reducible refine we_call0 ?_)
  | (with_reducible refine we_tup ?_)
  | (with_reducible refine we_lst ?_)
  | (with_reducible refine we_if ?_)
  | (with_reducible refine we_not ?_)
  | (with_reducible refine we_and ?_)
  | (with_reducible refine we_or ?_)
  | (with_reducible refine we_isN ?_)
  | (with_reducible refine we_notN ?_)
  | (with_reducible refine we_sl ?_)
  | (with_reducible refine wa_cons ?_)
  | (with_reducible refine wa_nil ?_)
  | (with_reducible refine wt_test ?_)
  | (with_reducible refine wt_B ?_)
  | (with_reducible refine wt_and ?_)
  | (with_reducible refine wt_or ?_)
  | (with_reducible refine wt_not ?_)
  | (with_reducible refine wt_yes ?_)
  | (with_reducible refine wo_none ?_)
  | (with_reducible refine wo_some ?_)
  | ((with_reducible refine' r2_ix ?hx ?_); (case hx => rfl))
  | (with_reducible refine r2_isN ?_)
  | (with_reducible refine r2_notN ?_)
  | (with_reducible refine r2_lt ?_)
  | (with_reducible refine r2_le ?_)
  | (with_reducible refine r2_gt ?_)
  | (with_reducible refine r2_ge ?_)
  | (with_reducible refine r2_sub ?_)
  | (with_reducible refine r2_addI ?_)
  | (with_reducible refine r2_eqI ?_)
  | (with_reducible refine r2_neI ?_)
  | (with_reducible refine rc_int ?_)
  | (with_reducible refine rc_abs ?_)
  | ((with_reducible refine' rc_len ?hl ?_); (case hl => rfl))
  | (with_reducible refine wi_seq ?_)
  | (with_reducible refine wi_rng1 ?_)
  | (with_reducible refine wi_rng2 ?_)
  | (with_reducible refine wi_enum ?_)
  | (refine ⟨_, rfl, ?_⟩))
local macro_rules | `(tactic| walk_at "ws1") => `(tactic| first
  | (with_reducible refine ws_seq ?_)
  | (with_reducible refine ws_set ?_)
  | (with_reducible refine ws_ret ?_)
  | (with_reducible refine ws_if ?_)
  | (with_reducible refine ws_next ?_)
  | (with_reducible refine ws_asg ?_))
local macro_rules | `(tactic| walk_at "wg1") => `(tactic| first
  | (with_reducible refine wg_name (rw_name (by decide)) ?_)
  | (with_reducible refine wg_name (fun _ _ => trivial) ?_)
  | ((with_reducible refine' wg_tup ?hl ?_); (case hl => rfl))
  | (with_reducible refine wgs_cons rw_trans ?_)
  | (with_reducible refine wgs_nil rw_refl ?_)
  | (with_reducible refine wgs_cons (fun _ _ _ _ _ => trivial) ?_)
  | (with_reducible refine wgs_nil (fun _ => trivial) ?_))
local macro_rules | `(tactic| walk_at "go") => `(tactic| repeat' (first | walk_at "we1" | walk_at "wg1"))
section
variable {P : Program} {w : World} {K : PySem.W.Frag} {mg : Str → Option Value} {base : Heap}
/-- the signs of names -/
def letters : Str := "abcdefghijklmnopqrstuvwxyz"
def signs36 : Str := "abcdefghijklmnopqrstuvwxyz0123456789"
def isName (z : Str) : Bool := decide (1 ≤ z.cps.size) && decide (z.cps.size ≤ 8) && decide (z.cps.toList.headD 0 ∈ letters.cps.toList) && z.cps.toList.all fun u => decide (u ∈ signs36.cps.toList)
structure Txt2 (mg : Str → Option Value) (tL tS : Tok) : Prop where
  b : Txt mg
  c_LETTERS : mg "LETTERS" = some (.str letters tL)
  c_SIGNS : mg "SIGNS" = some (.str signs36 tS)
def inSigns : D → D
  | .str x => .bl (decide (x.cps.toList.headD 0 ∈ signs36.cps.toList))
  | _ => .non
/-! plain things -/
mutual
def thg : D → Bool
  | .non => true
  | .bl _ => true
  | .int _ => true
  | .str z => decide (z.cps.size ≤ 1000) && fit (.str z)
  | .lst xs => thgAll xs
  | .tup xs => thgAll xs
  | _ => false
def thgAll : List D → Bool
  | [] => true
  | x :: xs => thg x && thgAll xs
end
theorem thgAll_mem : ∀ {xs : List D} {x : D}, thgAll xs = true → x ∈ xs → thg x = true
  | y :: ys, x, h, hx => by
    have h' : (thg y && thgAll ys) = true := h
    rw [Bool.and_eq_true] at h'
    rcases List.mem_cons.mp hx with q | q
    · rw [q]; exact h'.1
    · exact thgAll_mem h'.2 q
theorem thgAll_of : ∀ {xs : List D}, (∀ x ∈ xs, thg x = true) → thgAll xs = true
  | [], _ => rfl
  | y :: ys, h => by
    show (thg y && thgAll ys) = true
    rw [Bool.and_eq_true]
    exact ⟨h y List.mem_cons_self, thgAll_of fun x hx => h x (List.mem_cons_of_mem _ hx)⟩
def wholeD : D → Bool
  | .int _ => true
  | _ => false
def isRowD : D → Bool
  | .lst _ => true
  | .tup _ => true
  | _ => false
def rowOf : D → List D
  | .lst xs => xs
  | .tup xs => xs
  | _ => []
def nameD : D → Bool
  | .str z => isName z
  | _ => false
def entB (d : D) : Bool := isRowD d && match rowOf d with
  | [a, b, c] => nameD a && isRowD b && decide ((rowOf b).length ≤ 3) && wholeD c && (rowOf b).all wholeD
  | _ => false
def rowD (b : Bool) (ds : List D) : D := if b then .lst ds else .tup ds
theorem row_is {d : D} (h : isRowD d = true) : ∃ b xs, d = rowD b xs := by
  cases d with
  | lst xs => exact ⟨true, xs, rfl⟩
  | tup xs => exact ⟨false, xs, rfl⟩
  | _ => cases h
theorem row_seq (b : Bool) (ds : List D) : seqD (rowD b ds) = some ds := by cases b <;> rfl
theorem row_len (b : Bool) (ds : List D) : lenD (rowD b ds) = some (ds.length : Int) := by cases b <;> rfl
theorem row_of (b : Bool) (ds : List D) : rowOf (rowD b ds) = ds := by cases b <;> rfl
theorem row_isr (b : Bool) (ds : List D) : isRowD (rowD b ds) = true := by cases b <;> rfl
theorem row_ix {b : Bool} {ds : List D} {j : Nat} {d : D} (h : ds[j]? = some d) : ixD (rowD b ds) (j : Int) = some d := by
  cases b <;> exact ixD_nat h
theorem thg_row {b : Bool} {ds : List D} (h : thg (rowD b ds) = true) : thgAll ds = true := by cases b <;> exact h
theorem all_wh : ∀ {xs : List D}, xs.all wholeD = true → ∃ ks : List Int, xs = ks.map .int
  | [], _ => ⟨[], rfl⟩
  | x :: xs, h => by
    rw [List.all_cons, Bool.and_eq_true] at h
    obtain ⟨ks, e⟩ := all_wh h.2
    cases x with
    | int i => exact ⟨i :: ks, by rw [e]; rfl⟩
    | _ => cases h.1
theorem ent_is {d : D} (h : entB d = true) : ∃ (b c : Bool) (nm : Str) (ks : List Int) (v : Int), d = rowD b [.str nm, rowD c (ks.map .int), .int v] ∧ isName nm = true ∧ ks.length ≤ 3 := by
  unfold entB at h
  rw [Bool.and_eq_true] at h
  obtain ⟨h1, h2⟩ := h
  obtain ⟨b, xs, rfl⟩ := row_is h1
  rw [row_of] at h2
  match xs, h2 with
  | [a, k, v], h2 =>
    simp only [Bool.and_eq_true, decide_eq_true_eq] at h2
    obtain ⟨⟨⟨⟨q1, q2⟩, q3⟩, q4⟩, q5⟩ := h2
    obtain ⟨c, ys, rfl⟩ := row_is q2
    rw [row_of] at q3 q5
    obtain ⟨ks, rfl⟩ := all_wh q5
    cases a with
    | str nm =>
      cases v with
      | int v => exact ⟨b, c, nm, ks, v, rfl, q1, by rw [List.length_map] at q3; exact q3⟩
      | _ => cases q4
    | _ => cases q1
theorem ent_of (b c : Bool) (nm : Str) (ks : List Int) (v : Int) : entB (rowD b [.str nm, rowD c (ks.map .int), .int v]) = (isName nm && decide (ks.length ≤ 3)) := by
  unfold entB
  rw [row_isr, row_of, Bool.true_and]
  show (isName nm && isRowD (rowD c (ks.map .int)) && decide ((rowOf (rowD c (ks.map .int))).length ≤ 3) && true && (rowOf (rowD c (ks.map .int))).all wholeD) = _
  rw [row_isr, row_of, List.length_map, List.all_map]
  have : ks.all (wholeD ∘ D.int) = true := List.all_eq_true.mpr fun _ _ => rfl
  rw [this]
  simp
theorem ent_len {b : Bool} {xs : List D} (h : xs.length ≠ 3) : entB (rowD b xs) = false := by
  unfold entB
  rw [row_of]
  match xs, h with
  | [], _ => exact Bool.and_false _
  | [x], _ => exact Bool.and_false _
  | [x, y], _ => exact Bool.and_false _
  | [x, y, z], h => exact absurd rfl h
  | x :: y :: z :: u :: l, _ => exact Bool.and_false _
theorem three_of {α : Type} {xs : List α} (h : xs.length = 3) : ∃ x y z, xs = [x, y, z] := by
  match xs, h with
  | [x, y, z], _ => exact ⟨x, y, z, rfl⟩
/-! is_whole -/
def spWholeT : L3.Spec := fun bag n ds Φ => ∃ d : D, ds = [d] ∧ thg d = true ∧ Φ n (.bl (wholeD d))
abbrev s_is_whole : Stmt := top 12
abbrev N_is_whole : List Str := ["thing"]
theorem sc_is_whole : FnScope N_is_whole ["thing"] (defScope s_is_whole) := ⟨rfl, rfl, rfl, by decide +kernel, rfl, by decide +kernel, by decide +kernel⟩

theorem ok_wholeT {f : Addr} {fd : FuncData} (F : Fun K "is_whole" "is_whole" s_is_whole f fd) (T : Txt mg) : FnOk P w K mg base CX0 1 f fd ["thing"] (spD K spWholeT) := by
  refine fn_D F sc_is_whole (fun bag n ds Φ h => ?_) (fun cdv A outer s H E O bag n ds Φ hr h => ?_)
  · obtain ⟨d, e, _⟩ := h
    rw [e]; rfl
  · obtain ⟨d, e, ht, kk⟩ := h
    subst e
    refine ⟨_, (pss_one (ps_ret (pe_and (pe_callB (x_isi K) (by rfl) T.b_isinstance (by decide +kernel) (pa_cons (pv 0) (pa_cons (pe_bltn (v := .ty "int") (by rfl) T.b_int (by decide +kernel) rfl) pa_nil))) (pe_one (pe_not (pe_callB (x_isi K) (by rfl) T.b_isinstance (by decide +kernel) (pa_cons (pv 0) (pa_cons (pe_bltn (v := .ty "bool") (by rfl) T.b_bool (by decide +kernel) rfl) pa_nil)))))))), ?_⟩
    show WS _ _ [.val d] n _
    walk_at "ws1"
    walk_at "go"
    refine we_ty ?_
    walk_at "go"
    have no : ∀ T : String, tyD d = some T → kitB T "int" = some false → wholeD d = false → Φ n (.bl false) := fun T _ _ h => h ▸ kk
    cases d with
    | int i =>
      refine rc_isi (T := "int") (b := true) rfl (by decide +kernel) ?_
      refine ⟨_, rfl, itT rfl ?_⟩
      walk_at "go"
      refine we_ty ?_
      walk_at "go"
      refine rc_isi (T := "int") (b := false) rfl (by decide +kernel) ?_
      exact ⟨_, rfl, kk⟩
    | bl b =>
      refine rc_isi (T := "bool") (b := true) rfl (by decide +kernel) ?_
      refine ⟨_, rfl, itT rfl ?_⟩
      walk_at "go"
      refine we_ty ?_
      walk_at "go"
      refine rc_isi (T := "bool") (b := true) rfl (by decide +kernel) ?_
      exact ⟨_, rfl, kk⟩
    | non => exact rc_isi (T := "NoneType") (b := false) rfl (by decide +kernel) ⟨_, rfl, itF rfl kk⟩
    | str z => exact rc_isi (T := "str") (b := false) rfl (by decide +kernel) ⟨_, rfl, itF rfl kk⟩
    | lst xs => exact rc_isi (T := "list") (b := false) rfl (by decide +kernel) ⟨_, rfl, itF rfl kk⟩
    | tup xs => exact rc_isi (T := "tuple") (b := false) rfl (by decide +kernel) ⟨_, rfl, itF rfl kk⟩
    | _ => cases ht
/-! is_name -/
def spNameT : L3.Spec := fun bag n ds Φ => ∃ d : D, ds = [d] ∧ thg d = true ∧ Φ n (.bl (nameD d))
theorem head_in {z : Str} (h : 1 ≤ z.cps.size) (h2 : z.cps.size ≤ 1000) : ixD (.str z) 0 = some (.str ⟨#[z.cps.toList.headD 0]⟩) := by
  have hlen : z.length = z.cps.size := rfl
  show (if z.length ≤ sizeLine then (atI z.cps.toList ((0 : Nat) : Int)).map _ else none) = _
  rw [if_pos (by rw [hlen, sizeLine_eq]; omega)]
  have hz0 : z.cps.toList[0]? = some (z.cps.toList.headD 0) := by
    cases hq : z.cps.toList with
    | nil => have : z.cps.toList.length = 0 := by rw [hq]; rfl
             rw [Array.length_toList] at this; omega
    | cons u l => rfl
  rw [atI_nat hz0]; rfl
theorem str_len {z : Str} (h2 : z.cps.size ≤ 1000) : lenD (.str z) = some ((z.cps.size : Nat) : Int) := by
  have hlen : z.length = z.cps.size := rfl
  show (if z.length ≤ sizeLine then _ else _) = _
  rw [if_pos (by rw [hlen, sizeLine_eq]; omega)]; rfl
abbrev s_is_name : Stmt := top 13
abbrev N_is_name : List Str := ["thing", "sign"]
theorem sc_is_name : FnScope N_is_name ["thing"] (defScope s_is_name) := ⟨rfl, rfl, rfl, by decide +kernel, rfl, by decide +kernel, by decide +kernel⟩

theorem ok_nameT {f : Addr} {fd : FuncData} {tL tS : Tok} (F : Fun K "is_name" "is_name" s_is_name f fd) (T2 : Txt2 mg tL tS) : FnOk P w K mg base CX0 1 f fd ["thing"] (spD K spNameT) := by
  refine fn_D F sc_is_name (fun bag n ds Φ h => ?_) (fun cdv A outer s H E O bag n ds Φ hr h => ?_)
  · obtain ⟨d, e, _⟩ := h
    rw [e]; rfl
  · obtain ⟨d, e, ht, kk⟩ := h
    subst e
    have T := T2.b
    refine ⟨_, (pss_cons (ps_if (PW.pt (pw_or (pt_not (pt_val (pe_callB (x_isi K) (by rfl) T.b_isinstance (by decide +kernel) (pa_cons (pv 0) (pa_cons (pe_bltn (v := .ty "str") (by rfl) T.b_str (by decide +kernel) rfl) pa_nil))))) (pw_or (pt_cmpR op_lt (pe_callB (x_len K) (by rfl) T.b_len (by decide +kernel) (pa_cons (pv 0) pa_nil)) pe_int (nomark _)) (pw_or1 (pt_cmpR op_gt (pe_callB (x_len K) (by rfl) T.b_len (by decide +kernel) (pa_cons (pv 0) pa_nil)) pe_int (nomark _)))))) (pss_one (ps_ret pe_bl)) pss_nil)
  (pss_one (ps_ret (pe_and (pe_cmpR L2.op_inS (pe_ix (x_ix K) (pv 0) pe_int (fun _ _ => rfl)) (pe_glob (v := (.str _)) (by rfl) T2.c_LETTERS ⟨_, rfl⟩) (by with_unfolding_all rfl)) (pe_one (pe_callB (x_all K) (by rfl) T.b_all (by decide +kernel) (pa_cons (pe_lc (own := [("sign", 1)]) (g := gName 1) (tt := tYes) rfl sc_is_name.nd (pi_str (pv 0)) (blkOk_by (own := [("sign", 1)]) (N := N_is_name) (sc := defScope s_is_name) (by decide +kernel)) (fun _ _ _ _ _ => (pg_name (i := 1) sc_is_name.nd rfl (Or.inl rfl))) (fun _ _ _ _ _ => pts_nil) (fun _ _ _ _ _ => (pe_cmpR L2.op_inS (pv 1) (pe_glob (v := (.str _)) (by rfl) T2.c_SIGNS ⟨_, rfl⟩) (by with_unfolding_all rfl)))) pa_nil))))))), ?_⟩
    show WS _ _ [.val d, .un] n _
    walk_at "ws1"
    walk_at "ws1"
    walk_at "go"
    refine we_ty ?_
    walk_at "go"
    cases d with
    | non =>
      refine rc_isi (T := "NoneType") (b := false) rfl (by decide +kernel) ⟨_, rfl, itT rfl (itT rfl ?_)⟩
      walk_at "ws1"
      walk_at "go"
      exact kk
    | bl b =>
      refine rc_isi (T := "bool") (b := false) rfl (by decide +kernel) ⟨_, rfl, itT rfl (itT rfl ?_)⟩
      walk_at "ws1"
      walk_at "go"
      exact kk
    | int i =>
      refine rc_isi (T := "int") (b := false) rfl (by decide +kernel) ⟨_, rfl, itT rfl (itT rfl ?_)⟩
      walk_at "ws1"
      walk_at "go"
      exact kk
    | lst xs =>
      refine rc_isi (T := "list") (b := false) rfl (by decide +kernel) ⟨_, rfl, itT rfl (itT rfl ?_)⟩
      walk_at "ws1"
      walk_at "go"
      exact kk
    | tup xs =>
      refine rc_isi (T := "tuple") (b := false) rfl (by decide +kernel) ⟨_, rfl, itT rfl (itT rfl ?_)⟩
      walk_at "ws1"
      walk_at "go"
      exact kk
    | str z =>
      have hz : z.cps.size ≤ 1000 := by
        have h' : (decide (z.cps.size ≤ 1000) && fit (.str z)) = true := ht
        rw [Bool.and_eq_true] at h'
        exact of_decide_eq_true h'.1
      refine rc_isi (T := "str") (b := true) rfl (by decide +kernel) ⟨_, rfl, itF rfl ?_⟩
      walk_at "go"
      refine rc_len (str_len hz) ?_
      walk_at "go"
      refine dec2 (fun h1 => ?_) (fun h1 => ?_)
      · refine itT rfl ?_
        walk_at "ws1"
        walk_at "go"
        have : nameD (.str z) = false := by
          show isName z = false
          unfold isName
          rw [decide_eq_false (by omega : ¬ 1 ≤ z.cps.size)]
          rfl
        rw [this] at kk
        exact kk
      walk_at "go"
      refine rc_len (str_len hz) ?_
      walk_at "go"
      refine dec2 (fun h2 => ?_) (fun h2 => ?_)
      · walk_at "ws1"
        walk_at "go"
        have : nameD (.str z) = false := by
          show isName z = false
          unfold isName
          rw [decide_eq_false (by omega : ¬ z.cps.size ≤ 8), Bool.and_false]
          rfl
        rw [this] at kk
        exact kk
      have hN : nameD (.str z) = (decide (z.cps.toList.headD 0 ∈ letters.cps.toList) && z.cps.toList.all fun u => decide (u ∈ signs36.cps.toList)) := by
        show isName z = _
        unfold isName
        rw [decide_eq_true (by omega : 1 ≤ z.cps.size), decide_eq_true (by omega : z.cps.size ≤ 8)]
        rfl
      walk_at "ws1"
      walk_at "ws1"
      walk_at "go"
      refine r2_ix (head_in (by omega) hz) ?_
      walk_at "go"
      refine r2_sign ?_
      refine ⟨_, rfl, dec2 (fun hL => ?_) (fun hL => ?_)⟩
      · refine we_cb (wa_cons (wf_we (wf_map inSigns (fun _ => true) ?_)))
        refine wi_str ?_
        walk_at "go"
        refine ⟨?_, fun d hd m => ?_, ?_⟩
        · unfold signsD; rw [List.length_map, Array.length_toList]; omega
        · obtain ⟨u, _, rfl⟩ := List.mem_map.mp hd
          walk_at "go"
          refine ⟨rfl, rfl, fun _ => ?_⟩
          walk_at "go"
          exact r2_sign ⟨rfl, rfl⟩
        rw [filt_all]
        refine wa_nil ?_
        have e1 : (signsD z).map inSigns = (z.cps.toList.map fun u => decide (u ∈ signs36.cps.toList)).map D.bl := by
          unfold signsD
          rw [List.map_map, List.map_map]; rfl
        rw [e1]
        refine rc_all ?_
        rw [hN, decide_eq_true hL, Bool.true_and] at kk
        rw [List.all_map]
        exact kk
      · rw [hN, decide_eq_false hL, Bool.false_and] at kk
        exact kk
    | _ => cases ht

end
end Toy
/-! texts, plainly -/
namespace Toy
open PySem L2 L3 TL
theorem pre1 (s c : Nat) (r : List Nat) : pre [s] (c :: r) = decide (c = s) := by
  unfold pre
  by_cases h : c = s
  · subst h; simp
  · simp [h]
theorem spl1_len (s : Nat) : ∀ (l acc : List Nat), (spl [s] 0 acc l).length = l.count s + 1
  | [], acc => by rw [spl_nil]; rfl
  | c :: r, acc => by
    by_cases h : c = s
    · subst h
      rw [spl_hit (by rw [pre1]; simp), List.length_cons]
      show (spl [c] 0 [] r).length + 1 = _
      rw [spl1_len c r []]; simp
    · rw [spl_miss (by rw [pre1]; simp [h]), spl1_len s r, List.count_cons]
      simp [h]
theorem spl1_mem (s : Nat) : ∀ (l acc : List Nat), s ∉ acc → ∀ p ∈ spl [s] 0 acc l, (∀ u ∈ p, u ∈ acc ∨ u ∈ l) ∧ s ∉ p ∧ p.length ≤ acc.length + l.length
  | [], acc, ha, p, hp => by
    rw [spl_nil] at hp
    have e := List.mem_singleton.mp hp
    subst e
    exact ⟨fun u hu => .inl hu, ha, Nat.le_add_right _ _⟩
  | c :: r, acc, ha, p, hp => by
    by_cases h : c = s
    · subst h
      rw [spl_hit (by rw [pre1]; simp)] at hp
      rcases List.mem_cons.mp hp with e | e
      · subst e
        exact ⟨fun u hu => .inl hu, ha, Nat.le_add_right _ _⟩
      · have z := spl1_mem c r [] (fun q => nomatch q) p e
        refine ⟨fun u hu => .inr (List.mem_cons_of_mem _ ((z.1 u hu).resolve_left fun q => nomatch q)), z.2.1, ?_⟩
        have := z.2.2
        simp at this ⊢
        omega
    · rw [spl_miss (by rw [pre1]; simp [h])] at hp
      have z := spl1_mem s r (acc ++ [c]) (fun q => by
        rcases List.mem_append.mp q with q | q
        · exact ha q
        · exact h (List.mem_singleton.mp q).symm) p hp
      refine ⟨fun u hu => ?_, z.2.1, ?_⟩
      · rcases z.1 u hu with q | q
        · rcases List.mem_append.mp q with q | q
          · exact .inl q
          · exact .inr (by rw [List.mem_singleton.mp q]; exact List.mem_cons_self)
        · exact .inr (List.mem_cons_of_mem _ q)
      · have := z.2.2
        simp at this ⊢
        omega
theorem spl1_ne (s : Nat) (l acc : List Nat) : spl [s] 0 acc l ≠ [] := fun e => by
  have := spl1_len s l acc
  rw [e] at this
  exact absurd this (by simp)
theorem spl1_join (s : Nat) : ∀ (l acc : List Nat), joinL [s] (spl [s] 0 acc l) = acc ++ l
  | [], acc => by rw [spl_nil]; exact (List.append_nil _).symm
  | c :: r, acc => by
    by_cases h : c = s
    · subst h
      rw [spl_hit (by rw [pre1]; simp)]
      have ih := spl1_join c r []
      show joinL [c] (acc :: spl [c] 0 [] r) = _
      cases q : spl [c] 0 [] r with
      | nil => exact absurd q (spl1_ne c r [])
      | cons p ps =>
        rw [q] at ih
        show acc ++ ([c] ++ joinL [c] (p :: ps)) = _
        rw [ih]; simp
    · rw [spl_miss (by rw [pre1]; simp [h]), spl1_join s r]
      simp
/-- a text of plain signs, not long -/
def okT (z : Str) : Prop := (∀ u ∈ tl z, u < 128) ∧ z.length ≤ 1000
theorem okT_fit {z : Str} (h : okT z) : fit (.str z) = true := by
  unfold fit
  rw [Bool.and_eq_true]
  refine ⟨rfl, ?_⟩
  unfold SeqAt.shaped
  rw [Bool.and_eq_true]
  refine ⟨?_, rfl⟩
  show (z.cps.all fun u => decide (u < 0x110000)) = true
  rw [Array.all_eq_true_iff_forall_mem]
  intro u hu
  have := h.1 u (Array.mem_toList_iff.mpr hu)
  exact decide_eq_true (by omega)
theorem okT_thg {z : Str} (h : okT z) : thg (.str z) = true := by
  show (decide (z.cps.size ≤ 1000) && fit (.str z)) = true
  rw [okT_fit h, Bool.and_true]
  exact decide_eq_true h.2
def sep (s : Nat) : Str := ⟨#[s]⟩
theorem sep_tl (s : Nat) : tl (sep s) = [s] := rfl
theorem split_tl {s : Nat} (hs : s < 128) (x : Str) : (Txt.split x (sep s)).map tl = spl [s] 0 [] (tl x) := by
  rw [split_spl x (sep s) (by rw [sep_tl]; simp) (kind_ok (by simp [sep]; omega))]; rfl
theorem split_len {s : Nat} (hs : s < 128) (x : Str) : (Txt.split x (sep s)).length = (tl x).count s + 1 := by
  rw [← spl1_len s (tl x) [], ← split_tl hs, List.length_map]
theorem split_mem {s : Nat} (hs : s < 128) {x p : Str} (hp : p ∈ Txt.split x (sep s)) : (∀ u ∈ tl p, u ∈ tl x) ∧ s ∉ tl p ∧ p.length ≤ x.length := by
  have z := spl1_mem s (tl x) [] (fun q => nomatch q) (tl p) (by rw [← split_tl hs]; exact List.mem_map.mpr ⟨p, hp, rfl⟩)
  exact ⟨(fun u hu => (z.1 u hu).resolve_left (fun q => nomatch q)), z.2.1, by rw [len_tl, len_tl x]; simpa using z.2.2⟩
theorem split_ok {s : Nat} (hs : s < 128) {x p : Str} (hx : okT x) (hp : p ∈ Txt.split x (sep s)) : okT p := by
  have z := split_mem hs hp
  exact ⟨fun u hu => hx.1 u (z.1 u hu), Nat.le_trans z.2.2 hx.2⟩
theorem join_split {s : Nat} (hs : s < 128) (x : Str) : Txt.join (sep s) (Txt.split x (sep s)) = x := by
  refine ext_tl ?_
  rw [join_eq, tl_join, split_tl hs, sep_tl, spl1_join, List.nil_append]
theorem split_join1 {s : Nat} (hs : s < 128) {ps : List Str} (hne : ps ≠ []) (hp : ∀ p ∈ ps, s ∉ tl p) : Txt.split (Txt.join (sep s) ps) (sep s) = ps :=
  split_join (sep_tl s) (by simp [sep]; omega) hne hp
end Toy
namespace L3
open PySem L2
def forget : SD → SD
  | .val d => .val d
  | _ => .un
theorem Slots.forget {pr : Program} {wd : World} {K : PySem.W.Frag} {O : List Addr} {H : Hp} : ∀ {σ : List (Option V)} {ρ : List SD} {L : List Addr}, Slots pr wd K O H σ ρ L → Slots pr wd K O H σ (ρ.map L3.forget) []
  | _, _, _, .nil => .nil
  | _, _, _, .un s => .un s.forget
  | _, _, _, .val h s => .val h s.forget
  | _, _, _, .own _ _ s => .un s.forget
  | _, _, _, .dic _ s => .un s.forget
  | _, _, _, .dk _ s => .un s.forget
  | _, _, _, .tw _ s => .un s.forget
section
variable {P : Program} {w : World} {K : PySem.W.Frag} {O : List Addr} {bag : Option (Addr × Addr)} {p C dx : Addr} {ρ : List SD} {n : Nat} {ks : List (Str × D)} {Φ : Nat → List (Str × D) → Prop} {ts us vs : TS}
/-- statements ahead of the stores; what they own is forgotten -/
theorem wn_preF (h : ∀ H0, WS ⟨P, w, K, p :: O, bag, H0⟩ ts ρ n { nx := fun n1 ρ1 => WN P w K O bag p C dx us (ρ1.map forget) n1 ks Φ, rt := fun _ _ => False }) : WN P w K O bag p C dx (tSeq ts us) ρ n ks Φ := fun H σ fs Dn hp pO hf E q => by
  refine h H (fun _ => none) [] σ H { Dn with nx := us Dn } E { nx := fun L n1 H1 σ1 ρ1 E1 hn => ?_, rt := fun _ _ _ _ _ _ _ h => h.elim, bk := fun _ _ _ _ _ _ h => h.elim, ct := fun _ _ _ _ _ _ h => h.elim }
  have pB : p ∉ bagB bag := fun z => by
    obtain ⟨q, hq⟩ := (mem_B (c := ⟨P, w, K, p :: O, bag, H⟩)).mp z
    obtain ⟨xs, hx⟩ := (E.bag p q hq).lst
    rw [hp] at hx; cases hx
  have hp1 : H1 p = some (.ins C dx fs) := (hid_some.mp (E1.base p _ (hid_some.mpr ⟨pB, hp⟩))).2
  have bO : ∀ a, a ∈ bagB bag → a ∈ p :: O := fun a ha => E.inO (show a ∈ (⟨P, w, K, p :: O, bag, H⟩ : Ctx).B from ha)
  have s0 : Same (hid (p :: O) H) (hid (p :: O) H1) := same_hid_more bO E1.base
  obtain ⟨Ls, sl, sb⟩ := E1.slots
  refine hn H1 σ1 fs Dn hp1 pO (hf.mono s0) ?_ fun σ' fs' ks' n' H' s' b' hp' hf' kk' => q σ' fs' ks' n' H' ((same_hid_more (fun a ha => List.mem_cons_of_mem _ ha) E1.base).trans s') b' hp' hf' kk'
  exact { nd := List.nodup_nil, fresh := (fun l hl => nomatch hl), slots := ⟨[], sl.forget.move (fun l hl => nomatch hl) (same_hid_sub fun a ha => List.mem_append_right _ ha), List.Sublist.refl _⟩, lst := (fun l hl => nomatch hl), bag := E1.bag, base := Same.refl _,
          pers := (fun _ _ e => nomatch e), bO := E1.bO, al := E1.al }
theorem wn_assoc (h : WN P w K O bag p C dx (tSeq (tSeq ts us) vs) ρ n ks Φ) : WN P w K O bag p C dx (tSeq ts (tSeq us vs)) ρ n ks Φ := h
end
end L3
namespace L3
open PySem L2
section
variable {P : Program} {w : World} {K : PySem.W.Frag} {O : List Addr} {bag : Option (Addr × Addr)} {p C dx : Addr} {H00 : Hp} {ρ : List SD} {n : Nat} {ks : List (Str × D)} {Φ : Nat → List (Str × D) → Prop} {ts us vs : TS}
theorem wnx_preF (h : ∀ H0, Same (hid (p :: bagB bag) H00) (hid (p :: bagB bag) H0) → WS ⟨P, w, K, p :: O, bag, H0⟩ ts ρ n { nx := fun n1 ρ1 => WNX P w K O bag p C dx H00 us (ρ1.map forget) n1 ks Φ, rt := fun _ _ => False }) : WNX P w K O bag p C dx H00 (tSeq ts us) ρ n ks Φ := fun H σ fs Dn h00 hp pO hf E q => by
  refine h H h00 (fun _ => none) [] σ H { Dn with nx := us Dn } E { nx := fun L n1 H1 σ1 ρ1 E1 hn => ?_, rt := fun _ _ _ _ _ _ _ h => h.elim, bk := fun _ _ _ _ _ _ h => h.elim, ct := fun _ _ _ _ _ _ h => h.elim }
  have pB : p ∉ bagB bag := fun z => by
    obtain ⟨q, hq⟩ := (mem_B (c := ⟨P, w, K, p :: O, bag, H⟩)).mp z
    obtain ⟨xs, hx⟩ := (E.bag p q hq).lst
    rw [hp] at hx; cases hx
  have hp1 : H1 p = some (.ins C dx fs) := (hid_some.mp (E1.base p _ (hid_some.mpr ⟨pB, hp⟩))).2
  have bO : ∀ a, a ∈ bagB bag → a ∈ p :: O := fun a ha => E.inO (show a ∈ (⟨P, w, K, p :: O, bag, H⟩ : Ctx).B from ha)
  have s0 : Same (hid (p :: O) H) (hid (p :: O) H1) := same_hid_more bO E1.base
  have sp : Same (hid (p :: bagB bag) H) (hid (p :: bagB bag) H1) := same_hid_more (fun a ha => List.mem_cons_of_mem _ ha) E1.base
  obtain ⟨Ls, sl, sb⟩ := E1.slots
  refine hn H1 σ1 fs Dn (h00.trans sp) hp1 pO (hf.mono s0) ?_ fun σ' fs' ks' n' H' s' b' hp' hf' kk' => q σ' fs' ks' n' H' (sp.trans s') b' hp' hf' kk'
  exact { nd := List.nodup_nil, fresh := (fun l hl => nomatch hl), slots := ⟨[], sl.forget.move (fun l hl => nomatch hl) (same_hid_sub fun a ha => List.mem_append_right _ ha), List.Sublist.refl _⟩, lst := (fun l hl => nomatch hl), bag := E1.bag, base := Same.refl _,
          pers := (fun _ _ e => nomatch e), bO := E1.bO, al := E1.al }
theorem wnx_assoc (h : WNX P w K O bag p C dx H00 (tSeq (tSeq ts us) vs) ρ n ks Φ) : WNX P w K O bag p C dx H00 (tSeq ts (tSeq us vs)) ρ n ks Φ := h
end
/-- what isinstance asks of an own class -/
structure IsaT (K : PySem.W.Frag) (C : Addr) : Prop where
  ha : PySem.W.findIn K (.ref C) "__class__" = some (some (.builtin "object.__class__"))
  hn : PySem.W.specialIn K (.builtin "object.__class__") "__get__" = some (some (.builtin "getset_descriptor.__get__"))
  htk : PySem.W.takesIn K (.builtin "object.__class__") = some true
  hm : PySem.W.mroIn K C (.type "object") = some true
theorem rc_isiO {K : PySem.W.Frag} {Φ : D → Prop} {C : Addr} {ks : List (Str × D)} (cl : Cls K C) (T : IsaT K C) (k : Φ (.bl true)) : RCD K (rIsi K) [.obj C ks, .adr C] Φ := fun O H xs Q rs no q => by
  obtain ⟨v, u, rfl, r1, r2⟩ := rs.two
  cases r2
  cases r1 with
  | obj h1 hf => exact ⟨_, .ref C, .ref C, .ref C, true, rfl, .own C, .base (.ins (hid_some.mp h1).2 cl T.ha T.hn T.htk T.hm), if_pos (by simp), q _ _ H (Same.refl _) (.bl _) k⟩
/-- a class whose __init__ may raise, as callers see it -/
structure Mnx (P : Program) (w : World) (K : PySem.W.Frag) (mg : Str → Option Value) (base : Heap) (C : Addr) (x : Str) (k : Nat) (ps : List Str) (dv : List V) (dw : List Value) (S : SpecIX) where
  fI : Addr
  fd : FuncData
  M : Mk K C fI
  cl : Cls K C
  G : FnOk P w K mg base (L2.CX P w) k fI fd ps (spIX K C S)
  m : mg x = some (.ref C)
  b : Binds K fd ps dw
  v : Vals dv dw
/-- a class with its own ==, as callers see it -/
structure On (P : Program) (w : World) (K : PySem.W.Frag) (mg : Str → Option Value) (base : Heap) (C : Addr) (k : Nat) (ps : List Str) (S : L3.Spec) where
  f : Addr
  fd : FuncData
  T : OwnEqT K C f
  G : FnOk P w K mg base CX0 k f fd ps (spD K S)
  b : Binds K fd ps []
theorem xa_false {c : Ctx} : XA c (fun _ _ _ _ => False) (fun _ _ _ _ => False) := fun _ _ _ _ _ _ _ _ _ _ _ _ _ _ h => h
end L3
namespace Toy
open PySem L2 L3
local macro_rules | `(tactic| walk_at "we1") => `(tactic| first
  | ((with_reducible refine' we_var ?hv ?_); (case hv => rfl))
  | (with_reducible refine we_int ?_)
  | (with_reducible refine we_str ?_)
  | (with_reducible refine we_bl ?_)
  | (with_reducible refine we_non ?_)
  | ((with_reducible refine' we_dix ?hv ?_); (case hv => rfl))
  | (with_reducible refine we_op ?_)
  | ((with_reducible refine' we_dget ?hv ?_); (case hv => rfl))
  | (with_reducible refine we_count ?_)
  | (with_reducible refine we_cb ?_)
  | (with_reducible refine we_call0 ?_)
  | (with_reducible refine we_tup ?_)
  | (with_reducible refine we_lst ?_)
  | (with_reducible refine we_if ?_)
  | (with_reducible refine we_not ?_)
  | (with_reducible refine we_and ?_)
  | (with_reducible refine we_or ?_)
  | (with_reducible refine we_isN ?_)
  | (with_reducible refine we_notN ?_)
  | (with_reducible refine we_sl ?_)
  | (with_reducible refine wa_cons ?_)
  | (with_reducible refine wa_nil ?_)
  | (with_reducible refine wt_test ?_)
  | (with_reducible refine wt_B ?_)
  | (with_reducible refine wt_and ?_)
  | (with_reducible refine wt_or ?_)
  | (with_reducible refine wt_not ?_)
  | (with_reducible refine wt_yes ?_)
  | (with_reducible refine wo_none ?_)
  | (with_reducible refine wo_some ?_)
  | ((with_reducible refine' r2_ix ?hx ?_); (case hx => rfl))
  | (with_reducible refine r2_isN ?_)
  | (with_reducible refine r2_notN ?_)
  | (with_reducible refine r2_lt ?_)
  | (with_reducible refine r2_le ?_)
  | (with_reducible refine r2_gt ?_)
  | (with_reducible refine r2_ge ?_)
  | (with_reducible refine r2_sub ?_)
  | (with_reducible refine r2_addI ?_)
  | (with_reducible refine r2_eqI ?_)
  | (with_reducible refine r2_neI ?_)
  | (with_reducible refine rc_int ?_)
  | (with_reducible refine rc_abs ?_)
  | ((with_reducible refine' rc_len ?hl ?_); (case hl => rfl))
  | (with_reducible refine wi_seq ?_)
  | (with_reducible refine wi_rng1 ?_)
  | (with_reducible refine wi_rng2 ?_)
  | (with_reducible refine wi_enum ?_)
  | (refine ⟨_, rfl, ?_⟩))
local macro_rules | `(tactic| walk_at "ws1") => `(tactic| first
  | (with_reducible refine ws_seq ?_)
  | (with_reducible refine ws_set ?_)
  | (with_reducible refine ws_ret ?_)
  | (with_reducible refine ws_if ?_)
  | (with_reducible refine ws_next ?_)
  | (with_reducible refine ws_asg ?_))
local macro_rules | `(tactic| walk_at "wg1") => `(tactic| first
  | (with_reducible refine wg_name (rw_name (by decide)) ?_)
  | (with_reducible refine wg_name (fun _ _ => trivial) ?_)
  | ((with_reducible refine' wg_tup ?hl ?_); (case hl => rfl))
  | (with_reducible refine wgs_cons rw_trans ?_)
  | (with_reducible refine wgs_nil rw_refl ?_)
  | (with_reducible refine wgs_cons (fun _ _ _ _ _ => trivial) ?_)
  | (with_reducible refine wgs_nil (fun _ => trivial) ?_))
local macro_rules | `(tactic| walk_at "go") => `(tactic| repeat' (first | walk_at "we1" | walk_at "wg1"))
section
variable {P : Program} {w : World} {K : PySem.W.Frag} {mg : Str → Option Value} {base : Heap}
structure Ev where
  nm : Str
  at_ : Int
  kind : Str
  needs : List Str
def evF (e : Ev) : List (Str × D) := [("name", .str e.nm), ("end", .int e.at_), ("kind", .str e.kind), ("needs", .tup (e.needs.map .str))]
abbrev evD (C : Addr) (e : Ev) : D := .obj C (evF e)
structure EvT (K : PySem.W.Frag) (C : Addr) : Prop where
  cl : Cls K C
  n1 : NoAttr K C "name"
  n2 : NoAttr K C "end"
  n3 : NoAttr K C "kind"
  n4 : NoAttr K C "needs"
structure Txt3 (K : PySem.W.Frag) (mg : Str → Option Value) (tE tN : Tok) (aK : Addr) : Prop where
  b : Txt mg
  c_MOST_ENDS : mg "MOST_ENDS" = some (.int 5 tE)
  c_MOST_NEEDS : mg "MOST_NEEDS" = some (.int 3 tN)
  c_KINDS : mg "KINDS" = some (.ref aK)
  kinds : ∀ H, Rp K H (.ref aK) (.tup [.str "query", .str "action"])
theorem inD_str (x : Str) : ∀ l : List Str, inD (.str x) (l.map .str) = decide (x ∈ l) := fun l => by
  unfold inD
  rw [List.any_map]
  by_cases h : x ∈ l
  · rw [decide_eq_true h]
    refine List.any_eq_true.mpr ⟨x, h, ?_⟩
    show (x == x) = true
    simp
  · rw [decide_eq_false h]
    refine List.any_eq_false.mpr fun y hy => ?_
    show ¬ (y == x) = true
    simp only [beq_iff_eq]
    exact fun q => h (q ▸ hy)
theorem fit_strs {l : List Str} (h : ∀ x ∈ l, fit (.str x) = true) : fit (.lst (l.map .str)) = true := (fit_list fun d hd => by
  obtain ⟨x, hx, rfl⟩ := List.mem_map.mp hd
  exact ⟨h x hx, Nat.zero_le _⟩).1
def ordF (CE : Addr) (es : List Toy.Ev) : List (Str × D) := [("events", .tup (es.map (evD CE)))]
abbrev ordD (C CE : Addr) (es : List Toy.Ev) : D := .obj C (ordF CE es)
structure OrT (K : PySem.W.Frag) (C : Addr) : Prop where
  cl : Cls K C
  n1 : NoAttr K C "events"
structure Txt4 (mg : Str → Option Value) (tM : Tok) : Prop where
  b : Txt mg
  c_MOST_EVENTS : mg "MOST_EVENTS" = some (.int 12 tM)
/-- an event by its looks -/
structure Well (e : Toy.Ev) : Prop where
  nm : isName e.nm = true
  lo : 1 ≤ e.at_
  hi : e.at_ ≤ 5
  kd : e.kind ∈ ([("query" : Str), "action"])
  tn : okT e.nm
  tk : okT e.kind
  ts : ∀ x ∈ e.needs, okT x
  le : e.needs.length ≤ 1000
def spEvR : SpecI := fun bag n ds Φ => ∃ (b : Bool) (e : Toy.Ev), ds = [.str e.nm, .int e.at_, .str e.kind, rowD b (e.needs.map .str)] ∧ Φ n (evF e)
abbrev s_Event___init : Stmt := inClass (top 14) 0
abbrev N_Event___init : List Str := ["self", "name", "end", "kind", "needs"]
theorem sc_Event___init : FnScope N_Event___init ["self", "name", "end", "kind", "needs"] (defScope s_Event___init) := ⟨rfl, rfl, rfl, by decide +kernel, rfl, by decide +kernel, by decide +kernel⟩

theorem ok_event {f C : Addr} {fd : FuncData} {dvs : List V} (F : FunD K "__init__" "Event.__init__" (defArgs s_Event___init) (defBody s_Event___init) (defScope s_Event___init) dvs [] f fd) (T : Txt mg) (TE : EvT K C) : FnOk P w K mg base CX0 1 f fd ["self", "name", "end", "kind", "needs"] (spI K C spEvR) := by
  refine fn_ID F sc_Event___init (fun bag n ds Φ h => ?_) (fun cdv A outer s H E O bag n ds Φ p dx hr h => ?_)
  · obtain ⟨b, e, he, _⟩ := h
    rw [he]; rfl
  · obtain ⟨b, e, he, kk⟩ := h
    subst he
    refine ⟨_, (pss_cons (x_sfld K (ps_fld (pv 0) (pv 1) rfl))
  (pss_cons (x_sfld K (ps_fld (pv 0) (pv 2) rfl))
  (pss_cons (x_sfld K (ps_fld (pv 0) (pv 3) rfl))
  (pss_one (x_sfld K (ps_fld (pv 0) (pe_callTy (x_tup K) (by rfl) T.b_tuple (by decide +kernel) (pa_cons (pv 4) pa_nil)) rfl)))))), ?_⟩
    show WN _ _ _ _ _ _ _ _ _ [.val (.adr p), .val (.str e.nm), .val (.int e.at_), .val (.str e.kind), .val (rowD b (e.needs.map .str))] n [] _
    refine wn_seq TE.cl TE.n1 (by decide) rfl fun H0 => ?_
    walk_at "go"
    refine wn_seq TE.cl TE.n2 (by show 1 < 1000; decide) rfl fun H0 => ?_
    walk_at "go"
    refine wn_seq TE.cl TE.n3 (by show 2 < 1000; decide) rfl fun H0 => ?_
    walk_at "go"
    refine wn_st TE.cl TE.n4 (by show 3 < 1000; decide) rfl fun H0 => ?_
    walk_at "go"
    refine rc_tup (row_seq b _) ?_
    exact kk
/-! faults -/
def badAt (el ns : List Str) (i : Nat) : Bool := match ns[i]? with
  | some x => !decide (x ∈ el) || decide (x ∈ ns.take i)
  | none => false
def anyBad (el ns : List Str) : Bool := (List.range ns.length).any (badAt el ns)
def faultOf (el : List Str) (e : Toy.Ev) : Option Str := if e.nm ∈ el then some "twice" else if 3 < e.needs.length ∨ anyBad el e.needs = true then some "needs" else none
def firstF : List Str → List Toy.Ev → Option (Str × Str)
  | _, [] => none
  | el, e :: es => match faultOf el e with
    | some w => some (w, e.nm)
    | none => firstF (el ++ [e.nm]) es
def optS : Option Str → D
  | some x => .str x
  | none => .non
theorem anyBad_no {el ns : List Str} (h : ∀ j, j < ns.length → badAt el ns j = false) : anyBad el ns = false := by
  unfold anyBad
  refine List.any_eq_false.mpr fun j hj => ?_
  rw [h j (List.mem_range.mp hj)]; exact Bool.false_ne_true
theorem anyBad_yes {el ns : List Str} {j : Nat} (hj : j < ns.length) (h : badAt el ns j = true) : anyBad el ns = true := List.any_eq_true.mpr ⟨j, List.mem_range.mpr hj, h⟩
def spFaultX (C : Addr) : L3.Spec := fun bag n ds Φ => ∃ (e : Toy.Ev) (el : List Str), ds = [evD C e, .lst (el.map .str)] ∧ Well e ∧ el.length ≤ 20 ∧ (∀ x ∈ el, okT x) ∧ Φ n (optS (faultOf el e))
theorem fit_okT {l : List Str} (h : ∀ x ∈ l, okT x) : fit (.lst (l.map .str)) = true := fit_strs fun x hx => okT_fit (h x hx)
abbrev s_event_fault : Stmt := top 15
abbrev N_event_fault : List Str := ["event", "elder", "place", "need"]
theorem sc_event_fault : FnScope N_event_fault ["event", "elder"] (defScope s_event_fault) := ⟨rfl, rfl, rfl, by decide +kernel, rfl, by decide +kernel, by decide +kernel⟩

theorem ok_faultX {f C aK : Addr} {fd : FuncData} {tE tN : Tok} (F : Fun K "event_fault" "event_fault" s_event_fault f fd) (T3 : Txt3 K mg tE tN aK) (TE : EvT K C) (D_is_name : Dn P w K mg base "is_name" 1 ["thing"] [] [] spNameT) (D_is_whole : Dn P w K mg base "is_whole" 1 ["thing"] [] [] spWholeT) : FnOk P w K mg base CX0 2 f fd ["event", "elder"] (spD K (spFaultX C)) := by
  refine fn_D F sc_event_fault (fun bag n ds Φ h => ?_) (fun cdv A outer s H E O bag n ds Φ hr h => ?_)
  · obtain ⟨e, l, he, _⟩ := h
    rw [he]; rfl
  · obtain ⟨e, el, he, we, hel, hfe, kk⟩ := h
    subst he
    have T := T3.b
    refine ⟨_, (pss_cons (ps_if (pt_not (pt_val (pe_call D_is_name.G (hr.mono (by decide)) (by rfl) D_is_name.m D_is_name.k D_is_name.b D_is_name.v pass0 (pa_cons (x_fld K (pe_fld (pv 0) rfl)) pa_nil)))) (pss_one (ps_ret pe_str)) pss_nil)
  (pss_cons (ps_if (pt_cmpR (x_in K (by exact hu65 hr)) (x_fld K (pe_fld (pv 0) rfl)) (pv 1) (by with_unfolding_all rfl)) (pss_one (ps_ret pe_str)) pss_nil)
  (pss_cons (ps_if (PW.pt (pw_or (pt_not (pt_val (pe_call D_is_whole.G (hr.mono (by decide)) (by rfl) D_is_whole.m D_is_whole.k D_is_whole.b D_is_whole.v pass0 (pa_cons (x_fld K (pe_fld (pv 0) rfl)) pa_nil)))) (pw_or (pt_cmpR op_lt (x_fld K (pe_fld (pv 0) rfl)) pe_int (nomark _)) (pw_or1 (pt_cmpR op_gt (x_fld K (pe_fld (pv 0) rfl)) (pe_glob (v := (.int _)) (by rfl) T3.c_MOST_ENDS ⟨_, rfl⟩) (nomark _)))))) (pss_one (ps_ret pe_str)) pss_nil)
  (pss_cons (ps_if (pt_cmpR (x_notIn K (by exact hu65 hr)) (x_fld K (pe_fld (pv 0) rfl)) (pe_glob (v := (.ref _)) (by rfl) T3.c_KINDS rfl) (by with_unfolding_all rfl)) (pss_one (ps_ret pe_str)) pss_nil)
  (pss_cons (ps_if (pt_cmpR op_gt (pe_callB (x_len K) (by rfl) T.b_len (by decide +kernel) (pa_cons (x_fld K (pe_fld (pv 0) rfl)) pa_nil)) (pe_glob (v := (.int _)) (by rfl) T3.c_MOST_NEEDS ⟨_, rfl⟩) (nomark _)) (pss_one (ps_ret pe_str)) pss_nil)
  (pss_cons (ps_for PassesOwn.never rfl (x_enumT K (by rfl) T.b_enumerate (pa_cons (x_fld K (pe_fld (pv 0) rfl)) pa_nil)) (x_tgt K (pg_tup (by rfl) (pgs_cons (pg_name (i := 2) sc_event_fault.nd rfl (Or.inl rfl)) (pgs_cons (pg_name (i := 3) sc_event_fault.nd rfl (Or.inl rfl)) pgs_nil)))) (pss_one (ps_if (PW.pt (pw_or (pt_cmpR (x_notIn K (by exact hu65 hr)) (pv 3) (pv 1) (by with_unfolding_all rfl)) (pw_or1 (pt_cmpR (x_in K (by exact hu65 hr)) (pv 3) (pe_slice (x_sl K) (x_fld K (pe_fld (pv 0) rfl)) po_none (po_some (pv 2))) (by with_unfolding_all rfl))))) (pss_one (ps_ret pe_str)) pss_nil)))
  (pss_one (ps_ret pe_non)))))))), ?_⟩
    show WS _ _ [.val (evD C e), .val (.lst (el.map .str)), .un, .un] n _
    walk_at "ws1"
    walk_at "ws1"
    walk_at "go"
    refine we_fld TE.cl TE.n1 ?_
    walk_at "go"
    refine ⟨okT_thg we.tn, ?_⟩
    refine ⟨_, rfl, ?_⟩
    rw [show nameD (.str e.nm) = true from we.nm]
    refine itF rfl ?_
    walk_at "ws1"
    walk_at "ws1"
    walk_at "ws1"
    walk_at "go"
    refine we_fld TE.cl TE.n1 ?_
    walk_at "go"
    refine r2_in rfl (okT_fit we.tn) (fit_okT hfe) ?_
    rw [inD_str]
    refine ⟨_, rfl, dec2 (fun h1 => ?_) (fun h1 => ?_)⟩
    · walk_at "ws1"
      walk_at "go"
      have : faultOf el e = some "twice" := if_pos h1
      rw [this] at kk
      exact kk
    walk_at "ws1"
    walk_at "ws1"
    walk_at "ws1"
    walk_at "go"
    refine we_fld TE.cl TE.n2 ?_
    walk_at "go"
    refine ⟨rfl, ?_⟩
    refine ⟨_, rfl, itF rfl ?_⟩
    walk_at "go"
    refine we_fld TE.cl TE.n2 ?_
    walk_at "go"
    refine decF (by have := we.lo; omega) ?_
    walk_at "go"
    refine we_fld TE.cl TE.n2 ?_
    walk_at "go"
    refine decF (by have := we.hi; omega) ?_
    walk_at "ws1"
    walk_at "ws1"
    walk_at "ws1"
    walk_at "go"
    refine we_fld TE.cl TE.n3 ?_
    walk_at "go"
    refine we_const T3.kinds ?_
    have fk : fit (.lst (([("query" : Str), "action"]).map .str)) = true := by decide +kernel
    refine r2_notIn (ds := ([("query" : Str), "action"]).map .str) rfl (okT_fit we.tk) fk ?_
    rw [inD_str, decide_eq_true we.kd]
    refine ⟨_, rfl, itF rfl ?_⟩
    walk_at "ws1"
    walk_at "ws1"
    walk_at "ws1"
    walk_at "go"
    refine we_fld TE.cl TE.n4 ?_
    walk_at "go"
    refine dec2 (fun h2 => ?_) (fun h2 => ?_)
    · walk_at "ws1"
      walk_at "go"
      have : faultOf el e = some "needs" := (if_neg h1).trans (if_pos (.inl (by rw [List.length_map] at h2; omega)))
      rw [this] at kk
      exact kk
    rw [List.length_map] at h2
    walk_at "ws1"
    walk_at "ws1"
    refine ws_for ?_
    refine wi_enumT ?_
    walk_at "go"
    refine we_fld TE.cl TE.n4 ?_
    walk_at "we1"
    refine ⟨_, rfl, _, rfl, ?_⟩
    walk_at "we1"
    refine ⟨_, rfl, fun i m ρ => m = n ∧ (∀ j, j < i → badAt el e.needs j = false) ∧ ∃ x2 x3, ρ = [.val (evD C e), .val (.lst (el.map .str)), x2, x3], ⟨rfl, (fun j hj => absurd hj (Nat.not_lt_zero j)), _, _, rfl⟩, ?_, ?_⟩
    · rintro i m ρ1 d hd ⟨rfl, hno, x2, x3, rfl⟩
      obtain ⟨d1, hd1, rfl⟩ := enumD_get hd
      obtain ⟨x, hx, rfl, hxm, _⟩ := map_at hd1
      have hi : i < e.needs.length := (List.getElem?_eq_some_iff.mp hx).1
      have hil : i ≤ (e.needs.map D.str).length := by rw [List.length_map]; omega
      have hz : (0 : Int) + (i : Nat) = (i : Nat) := by omega
      rw [hz]
      have hb : badAt el e.needs i = (!decide (x ∈ el) || decide (x ∈ e.needs.take i)) := by unfold badAt; rw [hx]
      have bad : badAt el e.needs i = true → faultOf el e = some "needs" := fun q => (if_neg h1).trans (if_pos (.inr (anyBad_yes hi q)))
      walk_at "go"
      walk_at "ws1"
      walk_at "go"
      refine r2_notIn rfl (okT_fit (we.ts x hxm)) (fit_okT hfe) ?_
      rw [inD_str]
      by_cases h3 : x ∈ el
      · rw [decide_eq_true h3] at hb ⊢
        refine ⟨_, rfl, itF rfl ?_⟩
        walk_at "go"
        refine we_fld TE.cl TE.n4 ?_
        walk_at "go"
        rw [cut_to hil, ← List.map_take]
        refine r2_in rfl (okT_fit (we.ts x hxm)) (fit_okT fun y hy => we.ts y (List.mem_of_mem_take hy)) ?_
        rw [inD_str]
        refine ⟨_, rfl, dec2 (fun h4 => ?_) (fun h4 => ?_)⟩
        · walk_at "ws1"
          walk_at "go"
          rw [bad (by rw [hb, decide_eq_true h4]; rfl)] at kk
          exact kk
        · walk_at "ws1"
          refine ⟨rfl, fun j hj => ?_, _, _, rfl⟩
          rcases Nat.lt_succ_iff_lt_or_eq.mp hj with q | q
          · exact hno j q
          · rw [q, hb, decide_eq_false h4]; rfl
      · rw [decide_eq_false h3] at hb ⊢
        refine ⟨_, rfl, itT rfl (itT rfl ?_)⟩
        walk_at "ws1"
        walk_at "go"
        rw [bad (by rw [hb]; rfl)] at kk
        exact kk
    · rintro m ρ1 ⟨rfl, hno, x2, x3, rfl⟩
      rw [enumD_len, List.length_map] at hno
      walk_at "ws1"
      walk_at "go"
      have : faultOf el e = none := (if_neg h1).trans (if_neg (fun q => q.elim (fun z => by omega) fun z => by rw [anyBad_no hno] at z; cases z))
      rw [this] at kk
      exact kk

end
end Toy
namespace Toy
open PySem L2 L3
local macro_rules | `(tactic| walk_at "we1") => `(tactic| first
  | ((with_reducible refine' we_var ?hv ?_); (case hv => rfl))
  | (with_reducible refine we_int ?_)
  | (with_reducible refine we_str ?_)
  | (with_reducible refine we_bl ?_)
  | (with_reducible refine we_non ?_)
  | ((with_reducible refine' we_dix ?hv ?_); (case hv => rfl))
  | (with_reducible refine we_op ?_)
  | ((with_reducible refine' we_dget ?hv ?_); (case hv => rfl))
  | (with_reducible refine we_count ?_)
  | (with_reducible refine we_cb ?_)
  | (with_reducible refine we_call0 ?_)
  | (with_reducible refine we_tup ?_)
  | (with_reducible refine we_lst ?_)
  | (with_reducible refine we_if ?_)
  | (with_reducible refine we_not ?_)
  | (with_reducible refine we_and ?_)
  | (with_reducible refine we_or ?_)
  | (with_reducible refine we_isN ?_)
  | (with_reducible refine we_notN ?_)
  | (with_reducible refine we_sl ?_)
  | (with_reducible refine wa_cons ?_)
  | (with_reducible refine wa_nil ?_)
  | (with_reducible refine wt_test ?_)
  | (with_reducible refine wt_B ?_)
  | (with_reducible refine wt_and ?_)
  | (with_reducible refine wt_or ?_)
  | (with_reducible refine wt_not ?_)
  | (with_reducible refine wt_yes ?_)
  | (with_reducible refine wo_none ?_)
  | (with_reducible refine wo_some ?_)
  | ((with_reducible refine' r2_ix ?hx ?_); (case hx => rfl))
  | (with_reducible refine r2_isN ?_)
  | (with_reducible refine r2_notN ?_)
  | (with_reducible refine r2_lt ?_)
  | (with_reducible refine r2_le ?_)
  | (with_reducible refine r2_gt ?_)
  | (with_reducible refine r2_ge ?_)
  | (with_reducible refine r2_sub ?_)
  | (with_reducible refine r2_addI ?_)
  | (with_reducible refine r2_eqI ?_)
  | (with_reducible refine r2_neI ?_)
  | (with_reducible refine rc_int ?_)
  | (with_reducible refine rc_abs ?_)
  | ((with_reducible refine' rc_len ?hl ?_); (case hl => rfl))
  | (with_reducible refine wi_seq ?_)
  | (with_reducible refine wi_rng1 ?_)
  | (with_reducible refine wi_rng2 ?_)
  | (with_reducible refine wi_enum ?_)
  | (refine ⟨_, rfl, ?_⟩))
local macro_rules | `(tactic| walk_at "ws1") => `(tactic| first
  | (with_reducible refine ws_seq ?_)
  | (with_reducible refine ws_set ?_)
  | (with_reducible refine ws_ret ?_)
  | (with_reducible refine ws_if ?_)
  | (with_reducible refine ws_next ?_)
  | (with_reducible refine ws_asg ?_))
local macro_rules | `(tactic| walk_at "wg1") => `(tactic| first
  | (with_reducible refine wg_name (rw_name (by decide)) ?_)
  | (with_reducible refine wg_name (fun _ _ => trivial) ?_)
  | ((with_reducible refine' wg_tup ?hl ?_); (case hl => rfl))
  | (with_reducible refine wgs_cons rw_trans ?_)
  | (with_reducible refine wgs_nil rw_refl ?_)
  | (with_reducible refine wgs_cons (fun _ _ _ _ _ => trivial) ?_)
  | (with_reducible refine wgs_nil (fun _ => trivial) ?_))
local macro_rules | `(tactic| walk_at "go") => `(tactic| repeat' (first | walk_at "we1" | walk_at "wg1"))
section
variable {P : Program} {w : World} {K : PySem.W.Frag} {mg : Str → Option Value} {base : Heap}
/-! errors -/
abbrev s_BadOrder___init : Stmt := inClass (top 3) 0
abbrev N_BadOrder___init : List Str := ["self", "what", "name"]
theorem sc_BadOrder___init : FnScope N_BadOrder___init ["self", "what", "name"] (defScope s_BadOrder___init) := ⟨rfl, rfl, rfl, by decide +kernel, rfl, by decide +kernel, by decide +kernel⟩

theorem ok_xorder {f C C0 : Addr} {fd : FuncData} (F : Fun K "__init__" "BadOrder.__init__" s_BadOrder___init f fd) (A_AskedError : AskC K C0 ∧ mg "AskedError" = some (.ref C0)) (T : OexC K C) (n1 : PySem.W.findIn K (.ref C) "what" = some none) (n2 : PySem.W.findIn K (.ref C) "name" = some none) : FnOk P w K mg base CX0 1 f fd ["self", "what", "name"] (spXI C ["what", "name"]) := by
  refine F.ok sc_BadOrder___init (fun vs H Q E h => ?_) (fun cdv A outer s H vs Q E hr h => ?_)
  · obtain ⟨a, ws, rfl, hl, _⟩ := h
    simpa using hl
  · refine ⟨_, (pss_cons (ps_expr (pe_askinit (by rfl) A_AskedError.2 A_AskedError.1 (pa_cons (pv 0) (pa_cons pe_str pa_nil))))
  (pss_cons (ps_ost (pv 0) (pv 1))
  (pss_one (ps_ost (pv 0) (pv 2))))), ?_⟩
    exact xi2_go T n1 n2 h (fun _ _ h => h) _
abbrev s_BadText___init : Stmt := inClass (top 4) 0
abbrev N_BadText___init : List Str := ["self", "row"]
theorem sc_BadText___init : FnScope N_BadText___init ["self", "row"] (defScope s_BadText___init) := ⟨rfl, rfl, rfl, by decide +kernel, rfl, by decide +kernel, by decide +kernel⟩

theorem ok_xtext {f C C0 : Addr} {fd : FuncData} (F : Fun K "__init__" "BadText.__init__" s_BadText___init f fd) (A_AskedError : AskC K C0 ∧ mg "AskedError" = some (.ref C0)) (T : OexC K C) (n1 : PySem.W.findIn K (.ref C) "row" = some none) : FnOk P w K mg base CX0 1 f fd ["self", "row"] (spXI C ["row"]) := by
  refine F.ok sc_BadText___init (fun vs H Q E h => ?_) (fun cdv A outer s H vs Q E hr h => ?_)
  · obtain ⟨a, ws, rfl, hl, _⟩ := h
    simpa using hl
  · refine ⟨_, (pss_cons (ps_expr (pe_askinit (by rfl) A_AskedError.2 A_AskedError.1 (pa_cons (pv 0) (pa_cons pe_str pa_nil))))
  (pss_one (ps_ost (pv 0) (pv 1)))), ?_⟩
    exact xi1_go T n1 h (fun _ _ h => h) _
def xOrd (w x : Str) : List (Str × D) := [("name", .str x), ("what", .str w)]
/-! an order, or its first fault -/
def spOrderX (CB CE : Addr) : SpecIX := fun bag n ds Φ Ξ => ∃ (b : Bool) (es : List Toy.Ev), ds = [rowD b (es.map (evD CE))] ∧ es.length ≤ 12 ∧ (∀ e ∈ es, Well e) ∧ (firstF [] es = none → Φ n (ordF CE es)) ∧ ∀ w x, firstF [] es = some (w, x) → Ξ n CB (xOrd w x)
theorem firstF_no {el : List Str} {e : Toy.Ev} {es : List Toy.Ev} (h : faultOf el e = none) : firstF el (e :: es) = firstF (el ++ [e.nm]) es := by
  show (match faultOf el e with | some w => some (w, e.nm) | none => firstF (el ++ [e.nm]) es) = _
  rw [h]
theorem firstF_yes {el : List Str} {e : Toy.Ev} {es : List Toy.Ev} {x : Str} (h : faultOf el e = some x) : firstF el (e :: es) = some (x, e.nm) := by
  show (match faultOf el e with | some w => some (w, e.nm) | none => firstF (el ++ [e.nm]) es) = _
  rw [h]
theorem drop_at {α : Type} {l : List α} {i : Nat} {x : α} (h : l[i]? = some x) : l.drop i = x :: l.drop (i + 1) := by
  obtain ⟨hi, e⟩ := List.getElem?_eq_some_iff.mp h
  rw [← e]
  exact List.drop_eq_getElem_cons hi
abbrev s_Order___init : Stmt := inClass (top 16) 0
abbrev N_Order___init : List Str := ["self", "events", "elder", "event", "fault"]
theorem sc_Order___init : FnScope N_Order___init ["self", "events"] (defScope s_Order___init) := ⟨rfl, rfl, rfl, by decide +kernel, rfl, by decide +kernel, by decide +kernel⟩

theorem ok_orderX {f C CE : Addr} {fd : FuncData} {tM : Tok} (F : Fun K "__init__" "Order.__init__" s_Order___init f fd) (T4 : Txt4 mg tM) (TO : OrT K C) (TE : EvT K CE) (X_BadOrder : Xn P w K mg base "BadOrder" ["what", "name"]) (D_event_fault : Dn P w K mg base "event_fault" 2 ["event", "elder"] [] [] (spFaultX CE)) : FnOk P w K mg base (L2.CX P w) 3 f fd ["self", "events"] (spIX K C (spOrderX X_BadOrder.C CE)) := by
  refine fn_IX F sc_Order___init (fun bag n ds Φ Ξ h => ?_) (fun cdv A outer s H E hr => ?_)
  · obtain ⟨b, es, he, _⟩ := h
    rw [he]; rfl
  · have T := T4.b
    refine ⟨_, (pss_cons (ps_set (i := 1) sc_Order___init.nd rfl (Or.inl rfl) (pe_callTy (x_tup K) (by rfl) T.b_tuple (by decide +kernel) (pa_cons (pv 1) pa_nil)))
  (pss_cons (ps_if (pt_cmpR op_gt (pe_callB (x_len K) (by rfl) T.b_len (by decide +kernel) (pa_cons (pv 1) pa_nil)) (pe_glob (v := (.int _)) (by rfl) T4.c_MOST_EVENTS ⟨_, rfl⟩) (nomark _)) (pss_one (ps_raise rfl (takes_of rfl rfl rfl rfl) (pmk_oex X_BadOrder.T X_BadOrder.iC X_BadOrder.tI X_BadOrder.G (hr.mono (by decide)) X_BadOrder.b .nil pass0 (by rfl) X_BadOrder.m (pa_cons pe_str (pa_cons pe_non pa_nil))))) pss_nil)
  (pss_cons (ps_set (i := 2) sc_Order___init.nd rfl (Or.inl rfl) (pe_lst pa_nil))
  (pss_cons (ps_for (passes_of rfl) rfl (x_seq K (pv 1)) (pg_name (i := 3) sc_Order___init.nd rfl (Or.inl rfl)) (pss_cons (ps_set (i := 4) sc_Order___init.nd rfl (Or.inl rfl) (pe_call D_event_fault.G (hr.mono (by decide)) (by rfl) D_event_fault.m D_event_fault.k D_event_fault.b D_event_fault.v pass0 (pa_cons (pv 3) (pa_cons (pv 2) pa_nil))))
  (pss_cons (ps_if (pt_cmpR op_notN1 (pv 4) pe_non (nomark _)) (pss_one (ps_raise rfl (takes_of rfl rfl rfl rfl) (pmk_oex X_BadOrder.T X_BadOrder.iC X_BadOrder.tI X_BadOrder.G (hr.mono (by decide)) X_BadOrder.b .nil pass0 (by rfl) X_BadOrder.m (pa_cons (pv 4) (pa_cons (x_fld K (pe_fld (pv 3) rfl)) pa_nil))))) pss_nil)
  (pss_one (ps_expr (pe_bm PySem.F.plainAttrs_list PySem.F.slot_list_append PySem.F.type_list_append mt_append (pv 2) (pa_cons (x_fld K (pe_fld (pv 3) rfl)) pa_nil)))))))
  (pss_one (x_sfld K (ps_fld (pv 0) (pv 1) rfl))))))), fun O bag n ds Φ Ξ p dx h hx => ?_⟩
    obtain ⟨b, es, he, h12, hw, k1, k2⟩ := h
    subst he
    show WNX _ _ _ _ _ _ _ _ _ _ [.val (.adr p), .val (rowD b (es.map (evD CE))), .un, .un, .un] n [] _
    refine wnx_assoc (wnx_assoc (wnx_assoc (wnx_preF fun H0 s00 => ?_)))
    have hx := hx H0 s00
    walk_at "ws1"
    walk_at "ws1"
    walk_at "ws1"
    walk_at "ws1"
    walk_at "go"
    refine rc_tup (row_seq b _) ?_
    walk_at "ws1"
    walk_at "go"
    refine decF (by rw [List.length_map]; omega) ?_
    walk_at "ws1"
    refine ws_own (i := 2) (Nat.le_of_ble_eq_true rfl) (wf_lst (wa_nil ⟨Nat.zero_le _, ?_⟩))
    refine ws_for ?_
    walk_at "we1"
    walk_at "we1"
    refine ⟨_, rfl, fun i m ρ => m = n ∧ firstF [] es = firstF ((es.take i).map Toy.Ev.nm) (es.drop i) ∧ ∃ x3 x4, ρ = [.val (.adr p), .val (.tup (es.map (evD CE))), .own (((es.take i).map Toy.Ev.nm).map .str), x3, x4], ⟨rfl, rfl, _, _, rfl⟩, ?_, ?_⟩
    · rintro i m ρ1 d hd ⟨rfl, hF, x3, x4, rfl⟩
      obtain ⟨e, hee, rfl, hm, tk⟩ := map_at hd
      have we := hw e hm
      have hl : ((es.take i).map Toy.Ev.nm).length ≤ 12 := by rw [List.length_map, List.length_take]; omega
      have hf : ∀ x ∈ (es.take i).map Toy.Ev.nm, okT x := fun x hx => by
        obtain ⟨e', he', rfl⟩ := List.mem_map.mp hx
        exact (hw e' (List.mem_of_mem_take he')).tn
      rw [drop_at hee] at hF
      walk_at "wg1"
      walk_at "ws1"
      refine ws_set (we_look 2 rfl ?_)
      walk_at "go"
      refine ⟨e, _, rfl, we, by omega, hf, by cases faultOf ((es.take i).map Toy.Ev.nm) e <;> rfl, ?_⟩
      walk_at "ws1"
      walk_at "ws1"
      walk_at "go"
      cases hfa : faultOf ((es.take i).map Toy.Ev.nm) e with
      | some w0 =>
        rw [firstF_yes hfa] at hF
        refine itT rfl ?_
        refine ws_raise hx ?_
        walk_at "go"
        refine we_fld TE.cl TE.n1 ?_
        walk_at "go"
        exact ⟨rfl, by decide, k2 w0 e.nm hF⟩
      | none =>
      rw [firstF_no hfa] at hF
      refine itF rfl ?_
      walk_at "ws1"
      refine ws_append (i := 2) (ds := ((es.take i).map Toy.Ev.nm).map .str) rfl ?_
      refine we_fld TE.cl TE.n1 ?_
      walk_at "go"
      refine ⟨by rw [List.length_map, sizeLine_eq]; omega, rfl, ?_, .val (evD CE e), .val .non, ?_⟩
      · rw [hF, tk, List.map_append]; rfl
      · rw [tk, List.map_append, List.map_append]; rfl
    · rintro m ρ1 ⟨rfl, hF, x3, x4, rfl⟩
      rw [List.length_map, List.drop_length] at hF
      refine wnx_of ?_
      refine wn_st TO.cl TO.n1 (by decide) rfl fun H0 => ?_
      walk_at "go"
      exact k1 hF
/-! own == of what is alike -/
def spEqE (C : Addr) : L3.Spec := fun bag n ds Φ => ∃ e : Toy.Ev, ds = [evD C e, evD C e] ∧ Well e ∧ Φ n (.bl true)
theorem fit_needs {e : Toy.Ev} (h : Well e) : fit (.tup (e.needs.map .str)) = true := (fit_list fun d hd => by
  obtain ⟨x, hx, rfl⟩ := List.mem_map.mp hd
  exact ⟨okT_fit (h.ts x hx), Nat.zero_le _⟩).2
abbrev s_Event___eq : Stmt := inClass (top 14) 1
abbrev N_Event___eq : List Str := ["self", "other"]
theorem sc_Event___eq : FnScope N_Event___eq ["self", "other"] (defScope s_Event___eq) := ⟨rfl, rfl, rfl, by decide +kernel, rfl, by decide +kernel, by decide +kernel⟩

theorem ok_eqE {f C_Event : Addr} {fd : FuncData} (F : Fun K "__eq__" "Event.__eq__" s_Event___eq f fd) (T : Txt mg) (TE : EvT K C_Event) (TI : IsaT K C_Event) (gC_Event : mg "Event" = some (.ref C_Event)) : FnOk P w K mg base CX0 1 f fd ["self", "other"] (spD K (spEqE C_Event)) := by
  refine fn_D F sc_Event___eq (fun bag n ds Φ h => ?_) (fun cdv A outer s H Ex O bag n ds Φ hr h => ?_)
  · obtain ⟨e, he, _⟩ := h
    rw [he]; rfl
  · obtain ⟨e, he, we, kk⟩ := h
    subst he
    refine ⟨_, (pss_cons (ps_if (pt_not (pt_val (pe_callB (x_isi K) (by rfl) T.b_isinstance (by decide +kernel) (pa_cons (pv 1) (pa_cons (pe_glob (v := .ref C_Event) (by rfl) gC_Event rfl) pa_nil))))) (pss_one L3.ps_never) pss_nil)
  (pss_cons (ps_if (PW.pt (pw_or (pt_cmpR (x_ne K (by exact hr.units)) (x_fld K (pe_fld (pv 0) rfl)) (x_fld K (pe_fld (pv 1) rfl)) (nomark _)) (pw_or1 (pt_cmpR (x_ne K (by exact hr.units)) (x_fld K (pe_fld (pv 0) rfl)) (x_fld K (pe_fld (pv 1) rfl)) (nomark _))))) (pss_one (ps_ret pe_bl)) pss_nil)
  (pss_one (ps_ret (pe_and (pe_cmpR (x_eq K (by exact hr.units)) (x_fld K (pe_fld (pv 0) rfl)) (x_fld K (pe_fld (pv 1) rfl)) (nomark _)) (pe_one (pe_cmpR (x_eq K (by exact hr.units)) (x_fld K (pe_fld (pv 0) rfl)) (x_fld K (pe_fld (pv 1) rfl)) (nomark _)))))))), ?_⟩
    show WS _ _ [.val (evD C_Event e), .val (evD C_Event e)] n _
    walk_at "ws1"
    refine ws_if ?_
    walk_at "go"
    refine we_const (fun H => .adr _) ?_
    walk_at "go"
    refine rc_isiO TE.cl TI ?_
    refine ⟨_, rfl, itF rfl ?_⟩
    walk_at "ws1"
    walk_at "ws1"
    refine ws_if ?_
    walk_at "go"
    refine we_fld TE.cl TE.n1 ?_
    walk_at "go"
    refine we_fld TE.cl TE.n1 ?_
    walk_at "go"
    refine r2_neD (okT_fit we.tn) (okT_fit we.tn) ?_
    rw [L3.eq_self (okT_fit we.tn)]
    refine ⟨_, rfl, itF rfl ?_⟩
    walk_at "go"
    refine we_fld TE.cl TE.n2 ?_
    walk_at "go"
    refine we_fld TE.cl TE.n2 ?_
    walk_at "go"
    refine decN (fun h => absurd rfl h) (fun h => ?_)
    walk_at "ws1"
    walk_at "ws1"
    refine we_and (we_op (we_fld TE.cl TE.n3 ?_))
    walk_at "we1"
    refine ⟨_, rfl, _, rfl, ?_⟩
    refine we_fld TE.cl TE.n3 ?_
    walk_at "we1"
    refine ⟨_, rfl, _, rfl, ?_⟩
    refine r2_eqD (okT_fit we.tk) (okT_fit we.tk) ?_
    rw [L3.eq_self (okT_fit we.tk)]
    refine ⟨_, rfl, itT rfl ?_⟩
    refine we_op (we_fld TE.cl TE.n4 ?_)
    walk_at "we1"
    refine ⟨_, rfl, _, rfl, ?_⟩
    refine we_fld TE.cl TE.n4 ?_
    walk_at "we1"
    refine ⟨_, rfl, _, rfl, ?_⟩
    refine r2_eqD (fit_needs we) (fit_needs we) ?_
    rw [L3.eq_self (fit_needs we)]
    exact kk
def goodE (ks : List (Str × D)) : Prop := ∃ e : Toy.Ev, ks = evF e ∧ Well e
theorem hS_E {C : Addr} : ∀ ks, goodE ks → spEqE C none 0 [.obj C ks, .obj C ks] fun _ r => r = .bl true := fun ks h => by
  obtain ⟨e, rfl, we⟩ := h
  exact ⟨e, rfl, we, rfl⟩
def spEqO (CO CE : Addr) : L3.Spec := fun bag n ds Φ => ∃ es : List Toy.Ev, ds = [ordD CO CE es, ordD CO CE es] ∧ (∀ e ∈ es, Well e) ∧ Φ n (.bl true)
abbrev s_Order___eq : Stmt := inClass (top 16) 3
abbrev N_Order___eq : List Str := ["self", "other"]
theorem sc_Order___eq : FnScope N_Order___eq ["self", "other"] (defScope s_Order___eq) := ⟨rfl, rfl, rfl, by decide +kernel, rfl, by decide +kernel, by decide +kernel⟩

theorem ok_eqO {f C_Order C_Event : Addr} {fd : FuncData} (F : Fun K "__eq__" "Order.__eq__" s_Order___eq f fd) (T : Txt mg) (TO : OrT K C_Order) (TI : IsaT K C_Order) (gC_Order : mg "Order" = some (.ref C_Order)) (O_Event : On P w K mg base C_Event 1 ["self", "other"] (spEqE C_Event)) : FnOk P w K mg base CX0 3 f fd ["self", "other"] (spD K (spEqO C_Order C_Event)) := by
  refine fn_D F sc_Order___eq (fun bag n ds Φ h => ?_) (fun cdv A outer s H Ex O bag n ds Φ hr h => ?_)
  · obtain ⟨es, he, _⟩ := h
    rw [he]; rfl
  · obtain ⟨es, he, we, kk⟩ := h
    subst he
    have hS_Event := hS_E (C := C_Event)
    refine ⟨_, (pss_cons (ps_if (pt_not (pt_val (pe_callB (x_isi K) (by rfl) T.b_isinstance (by decide +kernel) (pa_cons (pv 1) (pa_cons (pe_glob (v := .ref C_Order) (by rfl) gC_Order rfl) pa_nil))))) (pss_one L3.ps_never) pss_nil)
  (pss_one (ps_ret (pe_cmpR (op_ownT O_Event.G hS_Event O_Event.T (hr.mono (by decide)) O_Event.b pass0) (x_fld K (pe_fld (pv 0) rfl)) (x_fld K (pe_fld (pv 1) rfl)) (nomark _))))), ?_⟩
    show WS _ _ [.val (ordD C_Order C_Event es), .val (ordD C_Order C_Event es)] n _
    walk_at "ws1"
    refine ws_if ?_
    walk_at "go"
    refine we_const (fun H => .adr _) ?_
    walk_at "go"
    refine rc_isiO TO.cl TI ?_
    refine ⟨_, rfl, itF rfl ?_⟩
    walk_at "ws1"
    walk_at "ws1"
    refine we_op (we_fld TO.cl TO.n1 ?_)
    walk_at "we1"
    refine ⟨_, rfl, _, rfl, ?_⟩
    refine we_fld TO.cl TO.n1 ?_
    walk_at "we1"
    refine ⟨_, rfl, _, rfl, ?_⟩
    refine r2_ownT (fun d hd => ?_) kk
    obtain ⟨e, he, rfl⟩ := List.mem_map.mp hd
    exact ⟨_, rfl, e, rfl, we e he⟩
/-! own iteration -/
abbrev s_Order___iter : Stmt := inClass (top 16) 1
abbrev N_Order___iter : List Str := ["self"]
theorem sc_Order___iter : FnScope N_Order___iter ["self"] (defScope s_Order___iter) := ⟨rfl, rfl, rfl, by decide +kernel, rfl, by decide +kernel, by decide +kernel⟩

theorem ok_iterO {f C_Order : Addr} {fd : FuncData} (F : Fun K "__iter__" "Order.__iter__" s_Order___iter f fd) (b_iter : mg "iter" = none) (TO : OrT K C_Order) (b : Binds K fd ["self"] []) : ItRun P w K mg base C_Order "events" 1 f := by
  refine itRun_of F sc_Order___iter b fun cdv A outer s H E => ?_
  refine ⟨_, (pss_one (ps_ret (pe_callB x_iterT (by rfl) b_iter (by decide +kernel) (pa_cons (x_fld K (pe_fld (pv 0) rfl)) pa_nil)))), ?_⟩
  intro a dx tt fs xs Q ha hl ht q
  exact ⟨_, rfl, _, _, _, _, _, rfl, ha, TO.cl, TO.n1, hl, tt, xs, rfl, ht, q⟩

end
end Toy
namespace Toy
open PySem L2 L3 TL
local macro_rules | `(tactic| walk_at "we1") => `(tactic| first
  | ((with_reducible refine' we_var ?hv ?_); (case hv => rfl))
  | (with_reducible refine we_int ?_)
  | (with_reducible refine we_str ?_)
  | (with_reducible refine we_bl ?_)
  | (with_reducible refine we_non ?_)
  | ((with_reducible refine' we_dix ?hv ?_); (case hv => rfl))
  | (with_reducible refine we_op ?_)
  | ((with_reducible refine' we_dget ?hv ?_); (case hv => rfl))
  | (with_reducible refine we_count ?_)
  | (with_reducible refine we_cb ?_)
  | (with_reducible refine we_call0 ?_)
  | (with_reducible refine we_tup ?_)
  | (with_reducible refine we_lst ?_)
  | (with_reducible refine we_if ?_)
  | (with_reducible refine we_not ?_)
  | (with_reducible refine we_and ?_)
  | (with_reducible refine we_or ?_)
  | (with_reducible refine we_isN ?_)
  | (with_reducible refine we_notN ?_)
  | (with_reducible refine we_sl ?_)
  | (with_reducible refine wa_cons ?_)
  | (with_reducible refine wa_nil ?_)
  | (with_reducible refine wt_test ?_)
  | (with_reducible refine wt_B ?_)
  | (with_reducible refine wt_and ?_)
  | (with_reducible refine wt_or ?_)
  | (with_reducible refine wt_not ?_)
  | (with_reducible refine wt_yes ?_)
  | (with_reducible refine wo_none ?_)
  | (with_reducible refine wo_some ?_)
  | ((with_reducible refine' r2_ix ?hx ?_); (case hx => rfl))
  | (with_reducible refine r2_isN ?_)
  | (with_reducible refine r2_notN ?_)
  | (with_reducible refine r2_lt ?_)
  | (with_reducible refine r2_le ?_)
  | (with_reducible refine r2_gt ?_)
  | (with_reducible refine r2_ge ?_)
  | (with_reducible refine r2_sub ?_)
  | (with_reducible refine r2_addI ?_)
  | (with_reducible refine r2_eqI ?_)
  | (with_reducible refine r2_neI ?_)
  | (with_reducible refine rc_int ?_)
  | (with_reducible refine rc_abs ?_)
  | ((with_reducible refine' rc_len ?hl ?_); (case hl => rfl))
  | (with_reducible refine wi_seq ?_)
  | (with_reducible refine wi_rng1 ?_)
  | (with_reducible refine wi_rng2 ?_)
  | (with_reducible refine wi_enum ?_)
  | (refine ⟨_, rfl, ?_⟩))
local macro_rules | `(tactic| walk_at "ws1") => `(tactic| first
  | (with_reducible refine ws_seq ?_)
  | (with_reducible refine ws_set ?_)
  | (with_reducible refine ws_ret ?_)
  | (with_reducible refine ws_if ?_)
  | (with_reducible refine ws_next ?_)
  | (with_reducible refine ws_asg ?_))
local macro_rules | `(tactic| walk_at "wg1") => `(tactic| first
  | (with_reducible refine wg_name (rw_name (by decide)) ?_)
  | (with_reducible refine wg_name (fun _ _ => trivial) ?_)
  | ((with_reducible refine' wg_tup ?hl ?_); (case hl => rfl))
  | (with_reducible refine wgs_cons rw_trans ?_)
  | (with_reducible refine wgs_nil rw_refl ?_)
  | (with_reducible refine wgs_cons (fun _ _ _ _ _ => trivial) ?_)
  | (with_reducible refine wgs_nil (fun _ => trivial) ?_))
local macro_rules | `(tactic| walk_at "go") => `(tactic| repeat' (first | walk_at "we1" | walk_at "wg1"))
section
variable {P : Program} {w : World} {K : PySem.W.Frag} {mg : Str → Option Value} {base : Heap}
/-! the plain things -/
theorem sp_is : (" " : Str) = sep 32 := by decide +kernel
theorem nl_is : ("\n" : Str) = sep 10 := by decide +kernel
def digs : List Str := ["1", "2", "3", "4", "5"]
def kinds2 : List Str := ["query", "action"]
def digV (z : Str) : Int := if z = "1" then 1 else if z = "2" then 2 else if z = "3" then 3 else if z = "4" then 4 else 5
theorem dig_cases {P : Str → Prop} (h1 : P "1") (h2 : P "2") (h3 : P "3") (h4 : P "4") (h5 : P "5") {z : Str} (h : z ∈ digs) : P z := by
  unfold digs at h
  simp only [List.mem_cons, List.not_mem_nil, or_false] at h
  rcases h with rfl | rfl | rfl | rfl | rfl
  · exact h1
  · exact h2
  · exact h3
  · exact h4
  · exact h5
theorem dig_int {z : Str} (h : z ∈ digs) : PySem.intText? z = some (digV z) ∧ z.length ≤ 640 ∧ 1 ≤ digV z ∧ digV z ≤ 5 ∧ ((toString (digV z) : String) : Str) = z :=
  dig_cases (P := fun z => PySem.intText? z = some (digV z) ∧ z.length ≤ 640 ∧ 1 ≤ digV z ∧ digV z ≤ 5 ∧ ((toString (digV z) : String) : Str) = z) (by decide +kernel) (by decide +kernel) (by decide +kernel) (by decide +kernel) (by decide +kernel) h
def rowT (e : Toy.Ev) : Str := Txt.join (sep 32) ([e.kind, e.nm, ((toString e.at_ : String) : Str)] ++ e.needs)
def textT (es : List Toy.Ev) : Str := Txt.join (sep 10) (es.map rowT)
def parseW : List Str → Option Toy.Ev
  | k :: nm :: d :: rest => if k ∈ kinds2 ∧ d ∈ digs ∧ (nm :: rest).all isName = true then some ⟨nm, digV d, k, rest⟩ else none
  | _ => none
def parseR (row : Str) : Option Toy.Ev := parseW (Txt.split row (sep 32))
def rowsOf (text : Str) : List Str := if text = "" then [] else Txt.split text (sep 10)
def badRow : Nat → List Str → Option Nat
  | _, [] => none
  | k, r :: rs => match parseR r with
    | none => some k
    | some _ => badRow (k + 1) rs
def evsOf (rows : List Str) : List Toy.Ev := rows.filterMap parseR
def unS : D → Str
  | .str x => x
  | _ => ""
def unE : D → Toy.Ev
  | .obj _ [(_, .str a), (_, .int b), (_, .str c), (_, .tup ds)] => ⟨a, b, c, ds.map unS⟩
  | _ => ⟨"", 0, "", []⟩
theorem un_strs : ∀ l : List Str, (l.map D.str).map unS = l
  | [] => rfl
  | x :: l => by show x :: ((l.map D.str).map unS) = _; rw [un_strs l]
theorem unE_is (C : Addr) (e : Toy.Ev) : unE (evD C e) = e := by
  show (⟨e.nm, e.at_, e.kind, (e.needs.map .str).map unS⟩ : Toy.Ev) = e
  rw [un_strs]
theorem sum_le (m : Nat) : ∀ zs : List Str, (∀ z ∈ zs, z.length ≤ m) → (zs.map (·.length)).sum ≤ zs.length * m
  | [], _ => Nat.zero_le _
  | z :: zs, h => by
    have h1 := h z List.mem_cons_self
    have h2 := sum_le m zs fun x hx => h x (List.mem_cons_of_mem _ hx)
    rw [List.map_cons, List.sum_cons, List.length_cons, Nat.succ_mul]
    omega
theorem join_len (y : Str) : ∀ zs : List Str, (Txt.join y zs).length ≤ (zs.map (·.length)).sum + zs.length * y.length := fun zs => by
  have e : ∀ (zs : List (List Nat)), (joinL (tl y) zs).length ≤ (zs.map (·.length)).sum + zs.length * (tl y).length := by
    intro zs
    induction zs with
    | nil => exact Nat.zero_le _
    | cons p ps ih =>
      cases ps with
      | nil =>
        show p.length ≤ _
        simp
      | cons q r =>
        show (p ++ (tl y ++ joinL (tl y) (q :: r))).length ≤ _
        rw [List.length_append, List.length_append]
        simp only [List.map_cons, List.sum_cons, List.length_cons, Nat.succ_mul] at ih ⊢
        omega
  rw [join_eq, len_tl, tl_join, len_tl y]
  have z := e (zs.map tl)
  rw [List.length_map, List.map_map] at z
  have q : (zs.map (List.length ∘ tl)) = zs.map (·.length) := List.map_congr_left fun x _ => (len_tl x).symm
  rw [q] at z
  exact z
theorem at_len {e : Toy.Ev} (h : Well e) : ((toString e.at_ : String) : Str).length ≤ 1000 := by
  have h1 := h.lo
  have h2 := h.hi
  have : e.at_ = 1 ∨ e.at_ = 2 ∨ e.at_ = 3 ∨ e.at_ = 4 ∨ e.at_ = 5 := by omega
  rcases this with q | q | q | q | q <;> (rw [q]; decide +kernel)
theorem row_parts {e : Toy.Ev} (h : Well e) : ∀ z ∈ [e.kind, e.nm, ((toString e.at_ : String) : Str)] ++ e.needs, z.length ≤ 1000 := fun z hz => by
  rcases List.mem_append.mp hz with q | q
  · simp only [List.mem_cons, List.not_mem_nil, or_false] at q
    rcases q with rfl | rfl | rfl
    · exact h.tk.2
    · exact h.tn.2
    · exact at_len h
  · exact (h.ts z q).2
theorem row_size {e : Toy.Ev} (h : Well e) : (([e.kind, e.nm, ((toString e.at_ : String) : Str)] ++ e.needs).map (·.length)).sum + ([e.kind, e.nm, ((toString e.at_ : String) : Str)] ++ e.needs).length * (sep 32).length ≤ 1004003 := by
  have h1 := sum_le 1000 _ (row_parts h)
  have h2 := h.le
  have h3 : (sep 32).length = 1 := rfl
  have h4 : ([e.kind, e.nm, ((toString e.at_ : String) : Str)] ++ e.needs).length = 3 + e.needs.length := by rw [List.length_append]; rfl
  rw [h4] at h1
  rw [h3, h4]
  omega
theorem row_le {e : Toy.Ev} (h : Well e) : (rowT e).length ≤ 1004003 := Nat.le_trans (join_len _ _) (row_size h)
/-! the text of an order -/
def spRowTx (CE : Addr) : L3.Spec := fun bag n ds Φ => ∃ e : Toy.Ev, ds = [evD CE e] ∧ Well e ∧ Φ n (.str (rowT e))
abbrev s_event_row : Stmt := top 18
abbrev N_event_row : List Str := ["event"]
theorem sc_event_row : FnScope N_event_row ["event"] (defScope s_event_row) := ⟨rfl, rfl, rfl, by decide +kernel, rfl, by decide +kernel, by decide +kernel⟩

theorem ok_rowtx {f CE : Addr} {fd : FuncData} (F : Fun K "event_row" "event_row" s_event_row f fd) (T : Txt mg) (TE : EvT K CE) : FnOk P w K mg base CX0 1 f fd ["event"] (spD K (spRowTx CE)) := by
  refine fn_D F sc_event_row (fun bag n ds Φ h => ?_) (fun cdv A outer s H Ex O bag n ds Φ hr h => ?_)
  · obtain ⟨e, he, _⟩ := h
    rw [he]; rfl
  · obtain ⟨e, he, we, kk⟩ := h
    subst he
    refine ⟨_, (pss_one (ps_ret (pe_join pe_str (pe_op (x_add K) (pe_lst (pa_cons (x_fld K (pe_fld (pv 0) rfl)) (pa_cons (x_fld K (pe_fld (pv 0) rfl)) (pa_cons (pe_callTy call_str_int (by rfl) T.b_str (by decide +kernel) (pa_cons (x_fld K (pe_fld (pv 0) rfl)) pa_nil)) pa_nil)))) (pe_callTy (x_list K) (by rfl) T.b_list (by decide +kernel) (pa_cons (x_fld K (pe_fld (pv 0) rfl)) pa_nil)))))), ?_⟩
    show WS _ _ [.val (evD CE e)] n _
    walk_at "ws1"
    refine we_join ?_
    walk_at "we1"
    refine ⟨_, rfl, ?_⟩
    refine we_op (we_lst ?_)
    walk_at "go"
    refine we_fld TE.cl TE.n3 ?_
    walk_at "go"
    refine we_fld TE.cl TE.n1 ?_
    walk_at "go"
    refine we_fld TE.cl TE.n2 ?_
    walk_at "we1"
    refine ⟨_, rfl, _, rfl, ?_⟩
    refine wa_nil (rc_strI ?_ ?_)
    · have h1 := we.lo
      have h2 := we.hi
      exact Nat.lt_of_le_of_lt (Nat.log2_le_self _) (by omega)
    refine wa_nil ⟨Nat.le_of_ble_eq_true rfl, ?_⟩
    walk_at "go"
    refine we_fld TE.cl TE.n4 ?_
    walk_at "we1"
    refine ⟨_, rfl, _, rfl, ?_⟩
    refine wa_nil (rc_list rfl ?_)
    refine r2_cat (by have := we.le; rw [List.length_map]; show 3 + _ ≤ _; omega) ?_
    have z := row_size we
    refine ⟨[e.kind, e.nm, ((toString e.at_ : String) : Str)] ++ e.needs, by rw [List.map_append]; rfl, by rw [sp_is]; omega, ?_⟩
    rw [sp_is]
    exact kk
def spText (CO CE : Addr) : L3.Spec := fun bag n ds Φ => ∃ es : List Toy.Ev, ds = [ordD CO CE es] ∧ es.length ≤ 12 ∧ (∀ e ∈ es, Well e) ∧ Φ n (.str (textT es))
abbrev s_order_text : Stmt := top 19
abbrev N_order_text : List Str := ["order", "event"]
theorem sc_order_text : FnScope N_order_text ["order"] (defScope s_order_text) := ⟨rfl, rfl, rfl, by decide +kernel, rfl, by decide +kernel, by decide +kernel⟩

theorem ok_text {f CO CE : Addr} {fd : FuncData} (F : Fun K "order_text" "order_text" s_order_text f fd) (T : Txt mg) (TO : OrT K CO) (D_event_row : Dn P w K mg base "event_row" 1 ["event"] [] [] (spRowTx CE)) : FnOk P w K mg base CX0 2 f fd ["order"] (spD K (spText CO CE)) := by
  refine fn_D F sc_order_text (fun bag n ds Φ h => ?_) (fun cdv A outer s H Ex O bag n ds Φ hr h => ?_)
  · obtain ⟨e, he, _⟩ := h
    rw [he]; rfl
  · obtain ⟨es, he, h12, we, kk⟩ := h
    subst he
    refine ⟨_, (pss_one (ps_ret (pe_join pe_str (pe_lc (own := [("event", 1)]) (g := gName 1) (tt := tYes) rfl sc_order_text.nd (x_seq K (x_fld K (pe_fld (pv 0) rfl))) (blkOk_by (own := [("event", 1)]) (N := N_order_text) (sc := defScope s_order_text) (by decide +kernel)) (fun _ _ _ _ _ => (pg_name (i := 1) sc_order_text.nd rfl (Or.inl rfl))) (fun _ _ _ _ _ => pts_nil) (fun _ _ _ _ _ => (pe_call D_event_row.G (hr.mono (by decide)) (by rfl) D_event_row.m D_event_row.k D_event_row.b D_event_row.v pass0 (pa_cons (pv 1) pa_nil))))))), ?_⟩
    show WS _ _ [.val (ordD CO CE es), .un] n _
    walk_at "ws1"
    refine we_join ?_
    walk_at "we1"
    refine ⟨_, rfl, ?_⟩
    refine wf_we (wf_map (fun d => .str (rowT (unE d))) (fun _ => true) (wi_seq ?_))
    refine we_fld TO.cl TO.n1 ?_
    walk_at "we1"
    refine ⟨_, rfl, _, rfl, ?_⟩
    refine ⟨_, rfl, by rw [List.length_map]; omega, fun d hd m => ?_, ?_⟩
    · obtain ⟨e, he, rfl⟩ := List.mem_map.mp hd
      walk_at "go"
      refine ⟨rfl, rfl, fun _ => ?_⟩
      walk_at "go"
      exact ⟨we e he, rfl, by rw [unE_is]⟩
    rw [filt_all, List.map_map]
    have e1 : es.map ((fun d => D.str (rowT (unE d))) ∘ evD CE) = (es.map rowT).map .str := by
      rw [List.map_map]
      exact List.map_congr_left fun e _ => by show D.str (rowT (unE (evD CE e))) = _; rw [unE_is]; rfl
    rw [e1]
    have z := sum_le 1004003 (es.map rowT) fun x hx => by
      obtain ⟨e, he, rfl⟩ := List.mem_map.mp hx
      exact row_le (we e he)
    refine ⟨es.map rowT, rfl, ?_, ?_⟩
    · rw [nl_is]
      have h3 : (sep 10).length = 1 := rfl
      rw [h3]
      rw [List.length_map] at z ⊢
      omega
    · rw [nl_is]; exact kk

end
end Toy
namespace Toy
open PySem L2 L3 TL
local macro_rules | `(tactic| walk_at "we1") => `(tactic| first
  | ((with_reducible refine' we_var ?hv ?_); (case hv => rfl))
  | (with_reducible refine we_int ?_)
  | (with_reducible refine we_str ?_)
  | (with_reducible refine we_bl ?_)
  | (with_reducible refine we_non ?_)
  | ((with_reducible refine' we_dix ?hv ?_); (case hv => rfl))
  | (with_reducible refine we_op ?_)
  | ((with_reducible refine' we_dget ?hv ?_); (case hv => rfl))
  | (with_reducible refine we_count ?_)
  | (with_reducible refine we_cb ?_)
  | (with_reducible refine we_call0 ?_)
  | (with_reducible refine we_tup ?_)
  | (with_reducible refine we_lst ?_)
  | (with_reducible refine we_if ?_)
  | (with_reducible refine we_not ?_)
  | (with_reducible refine we_and ?_)
  | (with_reducible refine we_or ?_)
  | (with_reducible refine we_isN ?_)
  | (with_reducible refine we_notN ?_)
  | (with_reducible refine we_sl ?_)
  | (with_reducible refine wa_cons ?_)
  | (with_reducible refine wa_nil ?_)
  | (with_reducible refine wt_test ?_)
  | (with_reducible refine wt_B ?_)
  | (with_reducible refine wt_and ?_)
  | (with_reducible refine wt_or ?_)
  | (with_reducible refine wt_not ?_)
  | (with_reducible refine wt_yes ?_)
  | (with_reducible refine wo_none ?_)
  | (with_reducible refine wo_some ?_)
  | ((with_reducible refine' r2_ix ?hx ?_); (case hx => rfl))
  | (with_reducible refine r2_isN ?_)
  | (with_reducible refine r2_notN ?_)
  | (with_reducible refine r2_lt ?_)
  | (with_reducible refine r2_le ?_)
  | (with_reducible refine r2_gt ?_)
  | (with_reducible refine r2_ge ?_)
  | (with_reducible refine r2_sub ?_)
  | (with_reducible refine r2_addI ?_)
  | (with_reducible refine r2_eqI ?_)
  | (with_reducible refine r2_neI ?_)
  | (with_reducible refine rc_int ?_)
  | (with_reducible refine rc_abs ?_)
  | ((with_reducible refine' rc_len ?hl ?_); (case hl => rfl))
  | (with_reducible refine wi_seq ?_)
  | (with_reducible refine wi_rng1 ?_)
  | (with_reducible refine wi_rng2 ?_)
  | (with_reducible refine wi_enum ?_)
  | (refine ⟨_, rfl, ?_⟩))
local macro_rules | `(tactic| walk_at "ws1") => `(tactic| first
  | (with_reducible refine ws_seq ?_)
  | (with_reducible refine ws_set ?_)
  | (with_reducible refine ws_ret ?_)
  | (with_reducible refine ws_if ?_)
  | (with_reducible refine ws_next ?_)
  | (with_reducible refine ws_asg ?_))
local macro_rules | `(tactic| walk_at "wg1") => `(tactic| first
  | (with_reducible refine wg_name (rw_name (by decide)) ?_)
  | (with_reducible refine wg_name (fun _ _ => trivial) ?_)
  | ((with_reducible refine' wg_tup ?hl ?_); (case hl => rfl))
  | (with_reducible refine wgs_cons rw_trans ?_)
  | (with_reducible refine wgs_nil rw_refl ?_)
  | (with_reducible refine wgs_cons (fun _ _ _ _ _ => trivial) ?_)
  | (with_reducible refine wgs_nil (fun _ => trivial) ?_))
local macro_rules | `(tactic| walk_at "go") => `(tactic| repeat' (first | walk_at "we1" | walk_at "wg1"))
section
variable {P : Program} {w : World} {K : PySem.W.Frag} {mg : Str → Option Value} {base : Heap}
/-! a row read -/
theorem parse_well {ws : List Str} {e : Toy.Ev} (hw : ∀ x ∈ ws, okT x) (hl : ws.length ≤ 1001) (h : parseW ws = some e) : Well e := by
  match ws, h with
  | k :: nm :: d :: rest, h =>
    have h' : (if k ∈ kinds2 ∧ d ∈ digs ∧ (nm :: rest).all isName = true then some (⟨nm, digV d, k, rest⟩ : Toy.Ev) else none) = some e := h
    split at h'
    · rename_i q
      obtain ⟨q1, q2, q3⟩ := q
      cases h'
      rw [List.all_cons, Bool.and_eq_true] at q3
      exact ⟨q3.1, (dig_int q2).2.2.1, (dig_int q2).2.2.2.1, q1, hw nm (by simp), hw k (by simp), (fun x hx => hw x (by simp [hx])), by simp at hl; show rest.length ≤ 1000; omega⟩
    · cases h'
theorem parseR_well {row : Str} {e : Toy.Ev} (hr : okT row) (h : parseR row = some e) : Well e := by
  refine parse_well (fun x hx => split_ok (by decide) hr hx) ?_ h
  rw [split_len (by decide)]
  have h1 := List.count_le_length (a := 32) (l := tl row)
  have h2 := hr.2
  rw [len_tl] at h2
  omega
def optE (CE : Addr) : Option Toy.Ev → D
  | some e => evD CE e
  | none => .non
def spParse (CE : Addr) : L3.Spec := fun bag n ds Φ => ∃ row : Str, ds = [.str row] ∧ okT row ∧ Φ n (optE CE (parseR row))
def nmOf : D → D
  | .str z => .bl (isName z)
  | _ => .non
theorem parse_short {ws : List Str} (h : ws.length < 3) : parseW ws = none := by
  match ws, h with
  | [], _ => rfl
  | [_], _ => rfl
  | [_, _], _ => rfl
  | _ :: _ :: _ :: _, h => simp only [List.length_cons] at h; omega
theorem cut_nat (xs : List D) (a b : Nat) (h : b ≤ xs.length) (hab : a ≤ b) : cutD xs (some (a : Int)) (some (b : Int)) = (xs.drop a).take (b - a) := by
  unfold cutD
  rw [HT.sIx_nat, HT.sIx_nat, Nat.min_eq_left h, Nat.min_eq_left (Nat.le_trans hab h)]
theorem cut_from (xs : List D) (a : Nat) (h : a ≤ xs.length) : cutD xs (some (a : Int)) none = xs.drop a := by
  unfold cutD
  rw [HT.sIx_nat, HT.sIx_none, Nat.min_eq_left h, List.take_of_length_le (by rw [List.length_drop]; omega)]
theorem three_more {ws : List Str} (h : ¬ ws.length < 3) : ∃ k nm d rest, ws = k :: nm :: d :: rest := by
  match ws, h with
  | [], h => exact absurd (show 0 < 3 by decide) h
  | [_], h => exact absurd (show 1 < 3 by decide) h
  | [_, _], h => exact absurd (show 2 < 3 by decide) h
  | k :: nm :: d :: rest, _ => exact ⟨k, nm, d, rest, rfl⟩
abbrev s_parse_event : Stmt := top 20
abbrev N_parse_event : List Str := ["row", "words", "word"]
theorem sc_parse_event : FnScope N_parse_event ["row"] (defScope s_parse_event) := ⟨rfl, rfl, rfl, by decide +kernel, rfl, by decide +kernel, by decide +kernel⟩

theorem ok_parse {f aK : Addr} {fd : FuncData} {tE tN : Tok} (F : Fun K "parse_event" "parse_event" s_parse_event f fd) (T3 : Txt3 K mg tE tN aK) (D_is_name : Dn P w K mg base "is_name" 1 ["thing"] [] [] spNameT) (M_Event : Mn P w K mg base "Event" 1 ["self", "name", "end", "kind", "needs"] [] [] spEvR) : FnOk P w K mg base CX0 3 f fd ["row"] (spD K (spParse M_Event.C)) := by
  refine fn_D F sc_parse_event (fun bag n ds Φ h => ?_) (fun cdv A outer s H Ex O bag n ds Φ hr h => ?_)
  · obtain ⟨e, he, _⟩ := h
    rw [he]; rfl
  · obtain ⟨row, he, hrow, kk⟩ := h
    subst he
    have T := T3.b
    have hwo : ∀ x ∈ Txt.split row (sep 32), okT x := fun x hx => split_ok (by decide) hrow hx
    have hle : (Txt.split row (sep 32)).length ≤ 1001 := by
      rw [split_len (by decide)]
      have h1 := List.count_le_length (a := 32) (l := tl row)
      have h2 := hrow.2
      rw [len_tl] at h2
      omega
    unfold parseR at kk
    refine ⟨_, (pss_cons (ps_set (i := 1) sc_parse_event.nd rfl (Or.inl rfl) (pe_split (pv 0) pe_str))
  (pss_cons (ps_if (PW.pt (pw_or (pt_cmpR op_lt (pe_callB (x_len K) (by rfl) T.b_len (by decide +kernel) (pa_cons (pv 1) pa_nil)) pe_int (nomark _)) (pw_or (pt_cmpR (x_notIn K (by exact hu65 hr)) (pe_ix (x_ix K) (pv 1) pe_int (fun _ _ => rfl)) (pe_glob (v := (.ref _)) (by rfl) T3.c_KINDS rfl) (by with_unfolding_all rfl)) (pw_or1 (pt_cmpR (x_notIn K (by exact hu65 hr)) (pe_ix (x_ix K) (pv 1) pe_int (fun _ _ => rfl)) (pe_tup (pa_cons pe_str (pa_cons pe_str (pa_cons pe_str (pa_cons pe_str (pa_cons pe_str pa_nil)))))) (by with_unfolding_all rfl)))))) (pss_one (ps_ret pe_non)) pss_nil)
  (pss_cons (ps_if (pt_not (pt_val (pe_callB (x_all K) (by rfl) T.b_all (by decide +kernel) (pa_cons (pe_lc (own := [("word", 2)]) (g := gName 2) (tt := tYes) rfl sc_parse_event.nd (x_seq K (pe_op (x_add K) (pe_slice (x_sl K) (pv 1) (po_some pe_int) (po_some pe_int)) (pe_slice (x_sl K) (pv 1) (po_some pe_int) po_none))) (blkOk_by (own := [("word", 2)]) (N := N_parse_event) (sc := defScope s_parse_event) (by decide +kernel)) (fun _ _ _ _ _ => (pg_name (i := 2) sc_parse_event.nd rfl (Or.inl rfl))) (fun _ _ _ _ _ => pts_nil) (fun _ _ _ _ _ => (pe_call D_is_name.G (hr.mono (by decide)) (by rfl) D_is_name.m D_is_name.k D_is_name.b D_is_name.v pass0 (pa_cons (pv 2) pa_nil)))) pa_nil)))) (pss_one (ps_ret pe_non)) pss_nil)
  (pss_one (ps_ret (pe_make M_Event.M M_Event.G (hr.mono (by decide)) (by rfl) M_Event.m M_Event.b M_Event.v pass0 (pa_cons (pe_ix (x_ix K) (pv 1) pe_int (fun _ _ => rfl)) (pa_cons (pe_callTy call_int_str (by rfl) T.b_int (by decide +kernel) (pa_cons (pe_ix (x_ix K) (pv 1) pe_int (fun _ _ => rfl)) pa_nil)) (pa_cons (pe_ix (x_ix K) (pv 1) pe_int (fun _ _ => rfl)) (pa_cons (pe_callTy (x_tup K) (by rfl) T.b_tuple (by decide +kernel) (pa_cons (pe_slice (x_sl K) (pv 1) (po_some pe_int) po_none) pa_nil)) pa_nil)))))))))), ?_⟩
    show WS _ _ [.val (.str row), .un, .un] n _
    walk_at "ws1"
    refine ws_set (we_split ?_)
    walk_at "we1"
    refine ⟨_, rfl, ?_, ?_⟩
    · have := hrow.2
      rw [sizeLine_eq]; omega
    walk_at "we1"
    refine ⟨_, rfl, rfl, ?_⟩
    rw [sp_is]
    generalize hW : Txt.split row (sep 32) = ws at kk hwo hle ⊢
    walk_at "ws1"
    refine ws_if ?_
    walk_at "go"
    rw [List.length_map]
    refine dec2 (fun h1 => ?_) (fun h1 => ?_)
    · refine itT rfl ?_
      walk_at "ws1"
      walk_at "go"
      rw [parse_short (by omega)] at kk
      exact kk
    obtain ⟨k, nm, d, rest, rfl⟩ := three_more (ws := ws) (by omega)
    have fk : fit (.lst (kinds2.map .str)) = true := by decide +kernel
    have fd' : fit (.lst (digs.map .str)) = true := by decide +kernel
    have no : ¬ (k ∈ kinds2 ∧ d ∈ digs ∧ (nm :: rest).all isName = true) → Φ n .non := fun q => by
      have z : parseW (k :: nm :: d :: rest) = none := if_neg q
      rw [z] at kk
      exact kk
    walk_at "go"
    refine r2_ix (ixD_nat (j := 0) rfl) ?_
    walk_at "go"
    refine we_const T3.kinds ?_
    refine r2_notIn (ds := kinds2.map .str) rfl (okT_fit (hwo k (by simp))) fk ?_
    rw [inD_str]
    by_cases h2 : k ∈ kinds2
    case neg =>
      rw [decide_eq_false h2]
      refine ⟨_, rfl, itT rfl (itT rfl ?_)⟩
      walk_at "ws1"
      walk_at "go"
      exact no fun q => h2 q.1
    rw [decide_eq_true h2]
    refine ⟨_, rfl, itF rfl ?_⟩
    walk_at "go"
    refine r2_ix (ixD_nat (j := 2) rfl) ?_
    walk_at "go"
    refine ⟨Nat.le_of_ble_eq_true rfl, ?_⟩
    refine r2_notIn (ds := digs.map .str) rfl (okT_fit (hwo d (by simp))) fd' ?_
    rw [inD_str]
    by_cases h3 : d ∈ digs
    case neg =>
      rw [decide_eq_false h3]
      refine ⟨_, rfl, itT rfl ?_⟩
      walk_at "ws1"
      walk_at "go"
      exact no fun q => h3 q.2.1
    rw [decide_eq_true h3]
    refine ⟨_, rfl, itF rfl ?_⟩
    walk_at "ws1"
    walk_at "ws1"
    walk_at "ws1"
    walk_at "go"
    refine wf_we (wf_map nmOf (fun _ => true) (wi_seq (we_op (we_sl ?_))))
    have hl3 : ((k :: nm :: d :: rest).map D.str).length = 3 + rest.length := by rw [List.length_map]; simp; omega
    have hc1 : cutD ((k :: nm :: d :: rest).map D.str) (some 1) (some 2) = [.str nm] := cut_nat _ 1 2 (by rw [hl3]; omega) (by decide)
    have hc2 : cutD ((k :: nm :: d :: rest).map D.str) (some 3) none = rest.map .str := cut_from _ 3 (by rw [hl3]; omega)
    have hlr : rest.length ≤ 1000 := by simp at hle; omega
    walk_at "go"
    rw [hc1]
    walk_at "go"
    rw [hc2]
    refine r2_cat (by rw [List.length_map]; show 1 + _ ≤ _; omega) ?_
    have e1 : [D.str nm] ++ rest.map .str = (nm :: rest).map .str := rfl
    rw [e1]
    refine ⟨_, rfl, by rw [List.length_map]; simp; omega, fun z hz m => ?_, ?_⟩
    · obtain ⟨x, hx, rfl⟩ := List.mem_map.mp hz
      have ox : okT x := hwo x (by
        rcases List.mem_cons.mp hx with q | q
        · rw [q]; simp
        · simp [q])
      walk_at "go"
      refine ⟨rfl, rfl, fun _ => ?_⟩
      walk_at "go"
      exact ⟨okT_thg ox, rfl, rfl⟩
    rw [filt_all, List.map_map]
    have e2 : (nm :: rest).map (nmOf ∘ D.str) = ((nm :: rest).map isName).map D.bl := by rw [List.map_map]; rfl
    rw [e2]
    refine wa_nil (rc_all ?_)
    rw [List.all_map]
    refine ⟨_, rfl, ?_⟩
    cases h4 : (nm :: rest).all (id ∘ isName) with
    | false =>
      refine itT rfl ?_
      walk_at "ws1"
      walk_at "go"
      exact no fun q => by
        have z : (nm :: rest).all isName = false := h4
        rw [z] at q
        exact Bool.false_ne_true q.2.2
    | true =>
    refine itF rfl ?_
    have hp : parseW (k :: nm :: d :: rest) = some ⟨nm, digV d, k, rest⟩ := if_pos ⟨h2, h3, h4⟩
    rw [hp] at kk
    walk_at "ws1"
    refine ws_ret ?_
    refine we_make (fun _ => .nil) ?_
    walk_at "go"
    refine r2_ix (ixD_nat (j := 1) rfl) ?_
    walk_at "go"
    refine r2_ix (ixD_nat (j := 2) rfl) ?_
    refine wa_nil (rc_intS (dig_int h3).1 (dig_int h3).2.1 ?_)
    walk_at "go"
    refine r2_ix (ixD_nat (j := 0) rfl) ?_
    walk_at "go"
    rw [hc2]
    refine rc_tup rfl ?_
    refine wa_nil ⟨false, ⟨nm, digV d, k, rest⟩, rfl, kk⟩

end
end Toy
namespace Toy
open PySem L2 L3 TL
local macro_rules | `(tactic| walk_at "we1") => `(tactic| first
  | ((with_reducible refine' we_var ?hv ?_); (case hv => rfl))
  | (with_reducible refine we_int ?_)
  | (with_reducible refine we_str ?_)
  | (with_reducible refine we_bl ?_)
  | (with_reducible refine we_non ?_)
  | ((with_reducible refine' we_dix ?hv ?_); (case hv => rfl))
  | (with_reducible refine we_op ?_)
  | ((with_reducible refine' we_dget ?hv ?_); (case hv => rfl))
  | (with_reducible refine we_count ?_)
  | (with_reducible refine we_cb ?_)
  | (with_reducible refine we_call0 ?_)
  | (with_reducible refine we_tup ?_)
  | (with_reducible refine we_lst ?_)
  | (with_reducible refine we_if ?_)
  | (with_reducible refine we_not ?_)
  | (with_reducible refine we_and ?_)
  | (with_reducible refine we_or ?_)
  | (with_reducible refine we_isN ?_)
  | (with_reducible refine we_notN ?_)
  | (with_reducible refine we_sl ?_)
  | (with_reducible refine wa_cons ?_)
  | (with_reducible refine wa_nil ?_)
  | (with_reducible refine wt_test ?_)
  | (with_reducible refine wt_B ?_)
  | (with_reducible refine wt_and ?_)
  | (with_reducible refine wt_or ?_)
  | (with_reducible refine wt_not ?_)
  | (with_reducible refine wt_yes ?_)
  | (with_reducible refine wo_none ?_)
  | (with_reducible refine wo_some ?_)
  | ((with_reducible refine' r2_ix ?hx ?_); (case hx => rfl))
  | (with_reducible refine r2_isN ?_)
  | (with_reducible refine r2_notN ?_)
  | (with_reducible refine r2_lt ?_)
  | (with_reducible refine r2_le ?_)
  | (with_reducible refine r2_gt ?_)
  | (with_reducible refine r2_ge ?_)
  | (with_reducible refine r2_sub ?_)
  | (with_reducible refine r2_addI ?_)
  | (with_reducible refine r2_eqI ?_)
  | (with_reducible refine r2_neI ?_)
  | (with_reducible refine rc_int ?_)
  | (with_reducible refine rc_abs ?_)
  | ((with_reducible refine' rc_len ?hl ?_); (case hl => rfl))
  | (with_reducible refine wi_seq ?_)
  | (with_reducible refine wi_rng1 ?_)
  | (with_reducible refine wi_rng2 ?_)
  | (with_reducible refine wi_enum ?_)
  | (refine ⟨_, rfl, ?_⟩))
local macro_rules | `(tactic| walk_at "ws1") => `(tactic| first
  | (with_reducible refine ws_seq ?_)
  | (with_reducible refine ws_set ?_)
  | (with_reducible refine ws_ret ?_)
  | (with_reducible refine ws_if ?_)
  | (with_reducible refine ws_next ?_)
  | (with_reducible refine ws_asg ?_))
local macro_rules | `(tactic| walk_at "wg1") => `(tactic| first
  | (with_reducible refine wg_name (rw_name (by decide)) ?_)
  | (with_reducible refine wg_name (fun _ _ => trivial) ?_)
  | ((with_reducible refine' wg_tup ?hl ?_); (case hl => rfl))
  | (with_reducible refine wgs_cons rw_trans ?_)
  | (with_reducible refine wgs_nil rw_refl ?_)
  | (with_reducible refine wgs_cons (fun _ _ _ _ _ => trivial) ?_)
  | (with_reducible refine wgs_nil (fun _ => trivial) ?_))
local macro_rules | `(tactic| walk_at "go") => `(tactic| repeat' (first | walk_at "we1" | walk_at "wg1"))
section
variable {P : Program} {w : World} {K : PySem.W.Frag} {mg : Str → Option Value} {base : Heap}
def xTxt (i : Int) : List (Str × D) := [("row", .int i)]
/-- what is no text -/
def noText (d : D) : Prop := ∃ T, tyD d = some T ∧ kitB T "str" = some false
/-- what comes of the rows -/
def Reads (CT CB CO CE : Addr) (rows : List Str) (n : Nat) (Φ : Nat → D → Prop) (Ξ : Nat → Addr → List (Str × D) → Prop) : Prop :=
  (∀ i, badRow 0 rows = some i → Ξ n CT (xTxt i)) ∧ (badRow 0 rows = none → (firstF [] (evsOf rows) = none → Φ n (ordD CO CE (evsOf rows))) ∧ ∀ w x, firstF [] (evsOf rows) = some (w, x) → Ξ n CB (xOrd w x))
def spParseO (CT CB CO CE : Addr) : L3.SpecX := fun bag n ds Φ Ξ => (∃ d, ds = [d] ∧ noText d ∧ Ξ n CT (xTxt 0)) ∨ ∃ text, ds = [.str text] ∧ okT text ∧ (rowsOf text).length ≤ 12 ∧ Reads CT CB CO CE (rowsOf text) n Φ Ξ
theorem rows_ok {text : Str} (h : okT text) : ∀ r ∈ rowsOf text, okT r := fun r hr => by
  unfold rowsOf at hr
  split at hr
  · cases hr
  · exact split_ok (by decide) h hr
theorem evs_well {rows : List Str} (h : ∀ r ∈ rows, okT r) : ∀ e ∈ evsOf rows, Well e := fun e he => by
  obtain ⟨r, hr, q⟩ := List.mem_filterMap.mp he
  exact parseR_well (h r hr) q
theorem evs_len (rows : List Str) : (evsOf rows).length ≤ rows.length := List.length_filterMap_le _ _
theorem badRow_step {k : Nat} {r : Str} {rs : List Str} {e : Toy.Ev} (h : parseR r = some e) : badRow k (r :: rs) = badRow (k + 1) rs := by
  show (match parseR r with | none => some k | some _ => badRow (k + 1) rs) = _
  rw [h]
theorem badRow_stop {k : Nat} {r : Str} {rs : List Str} (h : parseR r = none) : badRow k (r :: rs) = some k := by
  show (match parseR r with | none => some k | some _ => badRow (k + 1) rs) = _
  rw [h]
theorem evs_snoc {rows : List Str} {r : Str} {e : Toy.Ev} (h : parseR r = some e) : evsOf (rows ++ [r]) = evsOf rows ++ [e] := by
  unfold evsOf
  rw [List.filterMap_append]
  congr 1
  rw [List.filterMap_cons, h]; rfl
theorem text_empty {z : Str} (h : okT z) : eqD (.str z) (.str "") = decide (z = "") := by
  show (z == "") = decide (z = "")
  by_cases q : z = ""
  · subst q; rfl
  · rw [decide_eq_false q]
    exact beq_eq_false_iff_ne.mpr q
abbrev s_parse_order : Stmt := top 21
abbrev N_parse_order : List Str := ["text", "events", "place", "row", "event"]
theorem sc_parse_order : FnScope N_parse_order ["text"] (defScope s_parse_order) := ⟨rfl, rfl, rfl, by decide +kernel, rfl, by decide +kernel, by decide +kernel⟩

theorem ok_parseO {f CO CE : Addr} {fd : FuncData} (F : Fun K "parse_order" "parse_order" s_parse_order f fd) (T : Txt mg) (X_BadText : Xn P w K mg base "BadText" ["row"]) (CB : Addr) (R_Order : Mnx P w K mg base CO "Order" 3 ["self", "events"] [] [] (spOrderX CB CE)) (D_parse_event : Dn P w K mg base "parse_event" 3 ["row"] [] [] (spParse CE)) : FnOk P w K mg base (L2.CX P w) 5 f fd ["text"] (spDX K (spParseO X_BadText.C CB CO CE)) := by
  refine fn_DX F sc_parse_order (fun bag n ds Φ Ξ h => ?_) (fun cdv A outer s H Ex O bag n ds Φ Ξ hr h hx => ?_)
  · rcases h with ⟨d, e, _⟩ | ⟨z, e, _⟩ <;> (rw [e]; rfl)
  · rcases h with ⟨d, e, hno, kx⟩ | ⟨text, e, ht, h12, kr⟩
    · subst e
      refine ⟨_, (pss_cons (ps_if (pt_not (pt_val (pe_callB (x_isi K) (by rfl) T.b_isinstance (by decide +kernel) (pa_cons (pv 0) (pa_cons (pe_bltn (v := .ty "str") (by rfl) T.b_str (by decide +kernel) rfl) pa_nil))))) (pss_one (ps_raise rfl (takes_of rfl rfl rfl rfl) (pmk_oex X_BadText.T X_BadText.iC X_BadText.tI X_BadText.G (hr.mono (by decide)) X_BadText.b .nil pass0 (by rfl) X_BadText.m (pa_cons pe_int pa_nil)))) pss_nil)
  (pss_cons (ps_if (pt_cmpR (x_eq K (by exact hr.units)) (pv 0) pe_str (nomark _)) (pss_one (ps_ret (pe_make R_Order.M R_Order.G (hr.mono (by decide)) (by rfl) R_Order.m R_Order.b R_Order.v (passes_call (takes_of rfl rfl rfl rfl) (fun _ _ _ _ h => h)) (pa_cons (pe_tup pa_nil) pa_nil)))) pss_nil)
  (pss_cons (ps_set (i := 1) sc_parse_order.nd rfl (Or.inl rfl) (pe_lst pa_nil))
  (pss_cons (ps_for (passes_of rfl) rfl (x_enum K (by rfl) T.b_enumerate (pa_cons (pe_split (pv 0) pe_str) pa_nil)) (x_tgt K (pg_tup (by rfl) (pgs_cons (pg_name (i := 2) sc_parse_order.nd rfl (Or.inl rfl)) (pgs_cons (pg_name (i := 3) sc_parse_order.nd rfl (Or.inl rfl)) pgs_nil)))) (pss_cons (ps_set (i := 4) sc_parse_order.nd rfl (Or.inl rfl) (pe_call D_parse_event.G (hr.mono (by decide)) (by rfl) D_parse_event.m D_parse_event.k D_parse_event.b D_parse_event.v pass0 (pa_cons (pv 3) pa_nil)))
  (pss_cons (ps_if (pt_cmpR op_isN1 (pv 4) pe_non (nomark _)) (pss_one (ps_raise rfl (takes_of rfl rfl rfl rfl) (pmk_oex X_BadText.T X_BadText.iC X_BadText.tI X_BadText.G (hr.mono (by decide)) X_BadText.b .nil pass0 (by rfl) X_BadText.m (pa_cons (pv 2) pa_nil)))) pss_nil)
  (pss_one (ps_expr (pe_bm PySem.F.plainAttrs_list PySem.F.slot_list_append PySem.F.type_list_append mt_append (pv 1) (pa_cons (pv 4) pa_nil)))))))
  (pss_one (ps_ret (pe_make R_Order.M R_Order.G (hr.mono (by decide)) (by rfl) R_Order.m R_Order.b R_Order.v (passes_call (takes_of rfl rfl rfl rfl) (fun _ _ _ _ h => h)) (pa_cons (pe_callTy (x_tup K) (by rfl) T.b_tuple (by decide +kernel) (pa_cons (pv 1) pa_nil)) pa_nil)))))))), ?_⟩
      show WS _ _ [.val d, .un, .un, .un, .un] n _
      obtain ⟨Ty, h1, h2⟩ := hno
      walk_at "ws1"
      refine ws_if ?_
      walk_at "go"
      refine we_ty ?_
      walk_at "go"
      refine rc_isi h1 h2 ?_
      refine ⟨_, rfl, itT rfl ?_⟩
      refine ws_raise hx ?_
      walk_at "go"
      exact ⟨rfl, by decide, kx⟩
    · subst e
      have hok := rows_ok ht
      refine ⟨_, (pss_cons (ps_if (pt_not (pt_val (pe_callB (x_isi K) (by rfl) T.b_isinstance (by decide +kernel) (pa_cons (pv 0) (pa_cons (pe_bltn (v := .ty "str") (by rfl) T.b_str (by decide +kernel) rfl) pa_nil))))) (pss_one (ps_raise rfl (takes_of rfl rfl rfl rfl) (pmk_oex X_BadText.T X_BadText.iC X_BadText.tI X_BadText.G (hr.mono (by decide)) X_BadText.b .nil pass0 (by rfl) X_BadText.m (pa_cons pe_int pa_nil)))) pss_nil)
  (pss_cons (ps_if (pt_cmpR (x_eq K (by exact hr.units)) (pv 0) pe_str (nomark _)) (pss_one (ps_ret (pe_make R_Order.M R_Order.G (hr.mono (by decide)) (by rfl) R_Order.m R_Order.b R_Order.v (passes_call (takes_of rfl rfl rfl rfl) (fun _ _ _ _ h => h)) (pa_cons (pe_tup pa_nil) pa_nil)))) pss_nil)
  (pss_cons (ps_set (i := 1) sc_parse_order.nd rfl (Or.inl rfl) (pe_lst pa_nil))
  (pss_cons (ps_for (passes_of rfl) rfl (x_enum K (by rfl) T.b_enumerate (pa_cons (pe_split (pv 0) pe_str) pa_nil)) (x_tgt K (pg_tup (by rfl) (pgs_cons (pg_name (i := 2) sc_parse_order.nd rfl (Or.inl rfl)) (pgs_cons (pg_name (i := 3) sc_parse_order.nd rfl (Or.inl rfl)) pgs_nil)))) (pss_cons (ps_set (i := 4) sc_parse_order.nd rfl (Or.inl rfl) (pe_call D_parse_event.G (hr.mono (by decide)) (by rfl) D_parse_event.m D_parse_event.k D_parse_event.b D_parse_event.v pass0 (pa_cons (pv 3) pa_nil)))
  (pss_cons (ps_if (pt_cmpR op_isN1 (pv 4) pe_non (nomark _)) (pss_one (ps_raise rfl (takes_of rfl rfl rfl rfl) (pmk_oex X_BadText.T X_BadText.iC X_BadText.tI X_BadText.G (hr.mono (by decide)) X_BadText.b .nil pass0 (by rfl) X_BadText.m (pa_cons (pv 2) pa_nil)))) pss_nil)
  (pss_one (ps_expr (pe_bm PySem.F.plainAttrs_list PySem.F.slot_list_append PySem.F.type_list_append mt_append (pv 1) (pa_cons (pv 4) pa_nil)))))))
  (pss_one (ps_ret (pe_make R_Order.M R_Order.G (hr.mono (by decide)) (by rfl) R_Order.m R_Order.b R_Order.v (passes_call (takes_of rfl rfl rfl rfl) (fun _ _ _ _ h => h)) (pa_cons (pe_callTy (x_tup K) (by rfl) T.b_tuple (by decide +kernel) (pa_cons (pv 1) pa_nil)) pa_nil)))))))), ?_⟩
      show WS _ _ [.val (.str text), .un, .un, .un, .un] n _
      walk_at "ws1"
      refine ws_if ?_
      walk_at "go"
      refine we_ty ?_
      walk_at "go"
      refine rc_isi (T := "str") (b := true) rfl (by decide +kernel) ?_
      refine ⟨_, rfl, itF rfl ?_⟩
      walk_at "ws1"
      walk_at "ws1"
      refine ws_if ?_
      walk_at "go"
      refine r2_eqD (okT_fit ht) (by decide +kernel) ?_
      rw [text_empty ht]
      refine ⟨_, rfl, dec2 (fun h0 => ?_) (fun h0 => ?_)⟩
      · have hr0 : rowsOf text = [] := if_pos h0
        rw [hr0] at kr
        walk_at "ws1"
        refine we_makeX hx (dds := []) (fun _ => .nil) ?_
        walk_at "go"
        refine ⟨Nat.zero_le _, ?_⟩
        refine wa_nil ⟨false, [], rfl, Nat.zero_le _, (fun e he => nomatch he), fun q => (kr.2 rfl).1 q, fun w x q => (kr.2 rfl).2 w x q⟩
      have hr1 : rowsOf text = Txt.split text (sep 10) := if_neg h0
      walk_at "ws1"
      walk_at "ws1"
      refine ws_own (i := 1) (Nat.le_of_ble_eq_true rfl) (wf_lst (wa_nil ⟨Nat.zero_le _, ?_⟩))
      walk_at "ws1"
      refine ws_for ?_
      refine wi_enum (wa_cons (we_split ?_))
      walk_at "we1"
      refine ⟨_, rfl, ?_, ?_⟩
      · have := ht.2
        rw [sizeLine_eq]; omega
      walk_at "we1"
      refine ⟨_, rfl, rfl, ?_⟩
      rw [nl_is, ← hr1]
      generalize rowsOf text = rows at kr hok h12
      refine wa_nil ⟨_, rfl, ?_⟩
      refine ⟨fun i m ρ => m = n ∧ badRow 0 rows = badRow i (rows.drop i) ∧ ∃ x2 x3 x4, ρ = [.val (.str text), .own ((evsOf (rows.take i)).map (evD CE)), x2, x3, x4], ⟨rfl, rfl, _, _, _, rfl⟩, ?_, ?_⟩
      · rintro i m ρ1 d hd ⟨rfl, hB, x2, x3, x4, rfl⟩
        obtain ⟨d1, hd1, rfl⟩ := enumD_get hd
        obtain ⟨r, hx1, rfl, hm, tk⟩ := map_at hd1
        have hz : (0 : Int) + (i : Nat) = (i : Nat) := by omega
        rw [hz]
        rw [drop_at hx1] at hB
        walk_at "go"
        walk_at "ws1"
        walk_at "ws1"
        walk_at "go"
        refine ⟨hok r hm, ?_⟩
        walk_at "ws1"
        refine ws_if ?_
        walk_at "go"
        cases hp : parseR r with
        | none =>
          rw [badRow_stop hp] at hB
          refine itT rfl ?_
          refine ws_raise hx ?_
          walk_at "go"
          exact ⟨rfl, by decide, kr.1 i hB⟩
        | some e =>
        rw [badRow_step hp] at hB
        refine itF rfl ?_
        walk_at "ws1"
        refine ws_append (i := 1) (ds := (evsOf (rows.take i)).map (evD CE)) rfl ?_
        walk_at "go"
        have hl : (evsOf (rows.take i)).length ≤ 12 := Nat.le_trans (evs_len _) (by rw [List.length_take]; omega)
        refine ⟨by rw [List.length_map, sizeLine_eq]; omega, rfl, hB, .val (.int i), .val (.str r), .val (evD CE e), ?_⟩
        rw [tk, evs_snoc hp, List.map_append]
        rfl
      · rintro m ρ1 ⟨rfl, hB, x2, x3, x4, rfl⟩
        rw [enumD_len, List.length_map, List.drop_length] at hB
        rw [enumD_len, List.length_map, List.take_length]
        have kk := kr.2 hB
        refine ws_freeze 1 rfl ?_
        walk_at "ws1"
        refine we_makeX hx (dds := []) (fun _ => .nil) ?_
        walk_at "go"
        refine rc_tup rfl ?_
        refine wa_nil ⟨false, evsOf rows, rfl, Nat.le_trans (evs_len _) h12, evs_well hok, fun q => kk.1 q, fun w x q => kk.2 w x q⟩

end
end Toy
namespace L3
open PySem L2
section
variable {c : Ctx} {ρ : List SD} {n : Nat} {te : TE} {Φ : Nat → List D → Prop}
/-- list(x), one's own -/
theorem wf_list1 (h : WE c te ρ n fun n1 d => ∃ ds, seqD d = some ds ∧ Φ n1 ds) : WF c (tCB (rListD c.K) (tCons te tNil)) ρ n Φ := fun P L σ H Q E q => by
  refine h P L σ H _ E fun x d n1 H1 s1 j1 r1 ⟨ds, e, k⟩ => ?_
  have E1 := E.step s1 j1
  cases r1 with
  | @lst a ys _ hs ha =>
    cases e
    exact ⟨a, ys, rfl, .inl (.inl (same_rd same_hid hs)), fun l hl => q l ys _ n1 _ (s1.trans (E1.newT hl).1) (E.noneB s1 j1 hl) upd_same (by rw [hid_new_in hl]; exact ha) (E1.newT hl).2.1 k⟩
  | @tup a ys _ hs ha =>
    cases e
    exact ⟨a, ys, rfl, .inr (same_t same_hid hs), fun l hl => q l ys _ n1 _ (s1.trans (E1.newT hl).1) (E.noneB s1 j1 hl) upd_same (by rw [hid_new_in hl]; exact ha) (E1.newT hl).2.1 k⟩
  | _ => cases e
end
end L3
namespace Toy
open PySem L2 L3 TL
local macro_rules | `(tactic| walk_at "we1") => `(tactic| first
  | ((with_reducible refine' we_var ?hv ?_); (case hv => rfl))
  | (with_reducible refine we_int ?_)
  | (with_reducible refine we_str ?_)
  | (with_reducible refine we_bl ?_)
  | (with_reducible refine we_non ?_)
  | ((with_reducible refine' we_dix ?hv ?_); (case hv => rfl))
  | (with_reducible refine we_op ?_)
  | ((with_reducible refine' we_dget ?hv ?_); (case hv => rfl))
  | (with_reducible refine we_count ?_)
  | (with_reducible refine we_cb ?_)
  | (with_reducible refine we_call0 ?_)
  | (with_reducible refine we_tup ?_)
  | (with_reducible refine we_lst ?_)
  | (with_reducible refine we_if ?_)
  | (with_reducible refine we_not ?_)
  | (with_reducible refine we_and ?_)
  | (with_reducible refine we_or ?_)
  | (with_reducible refine we_isN ?_)
  | (with_reducible refine we_notN ?_)
  | (with_reducible refine we_sl ?_)
  | (with_reducible refine wa_cons ?_)
  | (with_reducible refine wa_nil ?_)
  | (with_reducible refine wt_test ?_)
  | (with_reducible refine wt_B ?_)
  | (with_reducible refine wt_and ?_)
  | (with_reducible refine wt_or ?_)
  | (with_reducible refine wt_not ?_)
  | (with_reducible refine wt_yes ?_)
  | (with_reducible refine wo_none ?_)
  | (with_reducible refine wo_some ?_)
  | ((with_reducible refine' r2_ix ?hx ?_); (case hx => rfl))
  | (with_reducible refine r2_isN ?_)
  | (with_reducible refine r2_notN ?_)
  | (with_reducible refine r2_lt ?_)
  | (with_reducible refine r2_le ?_)
  | (with_reducible refine r2_gt ?_)
  | (with_reducible refine r2_ge ?_)
  | (with_reducible refine r2_sub ?_)
  | (with_reducible refine r2_addI ?_)
  | (with_reducible refine r2_eqI ?_)
  | (with_reducible refine r2_neI ?_)
  | (with_reducible refine rc_int ?_)
  | (with_reducible refine rc_abs ?_)
  | ((with_reducible refine' rc_len ?hl ?_); (case hl => rfl))
  | (with_reducible refine wi_seq ?_)
  | (with_reducible refine wi_rng1 ?_)
  | (with_reducible refine wi_rng2 ?_)
  | (with_reducible refine wi_enum ?_)
  | (refine ⟨_, rfl, ?_⟩))
local macro_rules | `(tactic| walk_at "ws1") => `(tactic| first
  | (with_reducible refine ws_seq ?_)
  | (with_reducible refine ws_set ?_)
  | (with_reducible refine ws_ret ?_)
  | (with_reducible refine ws_if ?_)
  | (with_reducible refine ws_next ?_)
  | (with_reducible refine ws_asg ?_))
local macro_rules | `(tactic| walk_at "wg1") => `(tactic| first
  | (with_reducible refine wg_name (rw_name (by decide)) ?_)
  | (with_reducible refine wg_name (fun _ _ => trivial) ?_)
  | ((with_reducible refine' wg_tup ?hl ?_); (case hl => rfl))
  | (with_reducible refine wgs_cons rw_trans ?_)
  | (with_reducible refine wgs_nil rw_refl ?_)
  | (with_reducible refine wgs_cons (fun _ _ _ _ _ => trivial) ?_)
  | (with_reducible refine wgs_nil (fun _ => trivial) ?_))
local macro_rules | `(tactic| walk_at "go") => `(tactic| repeat' (first | walk_at "we1" | walk_at "wg1"))
section
variable {P : Program} {w : World} {K : PySem.W.Frag} {mg : Str → Option Value} {base : Heap}
theorem erase_map {α β : Type} (f : α → β) : ∀ (l : List α) (k : Nat), (l.map f).eraseIdx k = (l.eraseIdx k).map f
  | [], _ => rfl
  | _ :: _, 0 => rfl
  | x :: l, k + 1 => by
    show f x :: (l.map f).eraseIdx k = f x :: (l.eraseIdx k).map f
    rw [erase_map f l k]
theorem erase_perm {α : Type} : ∀ {l : List α} {k : Nat} (h : k < l.length), (l[k] :: l.eraseIdx k).Perm l
  | [], k, h => absurd h (by simp)
  | x :: l, 0, _ => List.Perm.refl _
  | x :: l, k + 1, h => (List.Perm.swap x _ _).trans ((erase_perm (l := l) (k := k) (by simpa using h)).cons x)
theorem move_perm {α : Type} {M L N : List α} {k : Nat} (h : k < L.length) (p : (M ++ L).Perm N) : ((M ++ [L[k]]) ++ L.eraseIdx k).Perm N := by
  rw [List.append_assoc]
  exact ((erase_perm h).append_left M).trans p

/-! names by draws -/
def PL : List Str := ["m", "b2", "z", "a", "k0", "c", "zz9", "abcdefgh", "d", "w1w1w1w1"]
def plB (x : Str) : Bool := isName x && (tl x).all (fun u => decide (u < 128)) && decide (x.length ≤ 8) && !(tl x).contains 32 && !(tl x).contains 10
theorem not_in {l : List Nat} {u : Nat} (h : l.contains u = false) : u ∉ l := fun q => by rw [List.contains_iff_mem.mpr q] at h; cases h
theorem PL_all : PL.all plB = true := by decide +kernel
structure PlOk (x : Str) : Prop where
  nm : isName x = true
  ok : okT x
  le : x.length ≤ 8
  sp : 32 ∉ tl x
  nl : 10 ∉ tl x
theorem plB_ok {x : Str} (h : plB x = true) : PlOk x := by
  unfold plB at h
  simp only [Bool.and_eq_true, Bool.not_eq_true', decide_eq_true_eq, List.all_eq_true] at h
  obtain ⟨⟨⟨⟨h1, h2⟩, h3⟩, h4⟩, h5⟩ := h
  exact ⟨h1, ⟨h2, by omega⟩, h3, not_in h4, not_in h5⟩
theorem PL_ok {x : Str} (h : x ∈ PL) : PlOk x := plB_ok (List.all_eq_true.mp PL_all x h)
theorem PL_nodup : PL.Nodup := by decide +kernel
def spNames : L3.Spec := fun bag n ds Φ => ∃ (b q : Addr) (many : Nat), bag = some (b, q) ∧ ds = [.adr b, .int (many : Int)] ∧ many ≤ 8 ∧ n + 100 < 2 ^ 60 ∧ ∀ (N : List Str) n', N.length = many → N.Nodup → (∀ x ∈ N, x ∈ PL) → n' ≤ n + 8 → Φ n' (.lst (N.map .str))
abbrev s_law_names : Stmt := top 25
abbrev N_law_names : List Str := ["bag", "many", "pool", "found", "turn"]
theorem sc_law_names : FnScope N_law_names ["bag", "many"] (defScope s_law_names) := ⟨rfl, rfl, rfl, by decide +kernel, rfl, by decide +kernel, by decide +kernel⟩

theorem ok_names {f : Addr} {fd : FuncData} (F : Fun K "_law_names" "_law_names" s_law_names f fd) (T : Txt mg) (D_law_draw : Dn P w K mg base "_law_draw" 1 ["bag", "limit"] [] [] spDraw) : FnOk P w K mg base CX0 2 f fd ["bag", "many"] (spD K spNames) := by
  refine fn_D F sc_law_names (fun bag n ds Φ h => ?_) (fun cdv A outer s H Ex O bag n ds Φ hr h => ?_)
  · obtain ⟨b, q, m, _, e, _⟩ := h
    rw [e]; rfl
  · obtain ⟨b, q, many, eb, e, hm8, hn, kk⟩ := h
    subst eb; subst e
    refine ⟨_, (pss_cons (ps_set (i := 2) sc_law_names.nd rfl (Or.inl rfl) (pe_lst (pa_cons pe_str (pa_cons pe_str (pa_cons pe_str (pa_cons pe_str (pa_cons pe_str (pa_cons pe_str (pa_cons pe_str (pa_cons pe_str (pa_cons pe_str (pa_cons pe_str pa_nil))))))))))))
  (pss_cons (ps_set (i := 3) sc_law_names.nd rfl (Or.inl rfl) (pe_lst pa_nil))
  (pss_cons (ps_for PassesOwn.never rfl (pi_range1 (by rfl) T.b_range (pa_cons (pv 1) pa_nil)) (pg_name (i := 4) sc_law_names.nd rfl (Or.inl rfl)) (pss_one (ps_expr (pe_bm PySem.F.plainAttrs_list PySem.F.slot_list_append PySem.F.type_list_append mt_append (pv 3) (pa_cons (x_bm K (id := "list.pop") (pe_bm PySem.F.plainAttrs_list PySem.F.slot_list_pop PySem.F.type_list_pop mt_popAt (pv 2) (pa_cons (pe_call D_law_draw.G (hr.mono (by decide)) (by rfl) D_law_draw.m D_law_draw.k D_law_draw.b D_law_draw.v pass0 (pa_cons (pv 0) (pa_cons (pe_callB (x_len K) (by rfl) T.b_len (by decide +kernel) (pa_cons (pv 2) pa_nil)) pa_nil))) pa_nil))) pa_nil)))))
  (pss_one (ps_ret (pv 3)))))), ?_⟩
    show WS _ _ [.val (.adr b), .val (.int many), .un, .un, .un] n _
    walk_at "ws1"
    refine ws_own (i := 2) (Nat.le_of_ble_eq_true rfl) (wf_lst ?_)
    walk_at "go"
    refine ⟨Nat.le_of_ble_eq_true rfl, ?_⟩
    show WS _ _ [.val (.adr b), .val (.int many), .own (PL.map .str), .un, .un] n _
    walk_at "ws1"
    refine ws_own (i := 3) (Nat.le_of_ble_eq_true rfl) (wf_lst (wa_nil ⟨Nat.zero_le _, ?_⟩))
    walk_at "ws1"
    refine ws_for ?_
    walk_at "go"
    refine ⟨by omega, by omega, ?_⟩
    have hcn : ((many : Nat) : Int).toNat = many := by omega
    rw [hcn]
    refine ⟨fun i m ρ => m ≤ n + i ∧ ∃ (N R : List Str) (x4 : SD), N.length = i ∧ (N ++ R).Perm PL ∧ ρ = [.val (.adr b), .val (.int many), .own (R.map .str), .own (N.map .str), x4], ⟨Nat.le_refl _, [], PL, .un, rfl, List.Perm.refl _, rfl⟩, ?_, ?_⟩
    · rintro i m ρ1 d hd ⟨hm, N, R, x5, hN, hp, rfl⟩
      obtain ⟨hi, rfl⟩ := rangeD_get hd
      have hl := hp.length_eq
      have hPL : PL.length = 10 := rfl
      rw [List.length_append, hPL] at hl
      walk_at "wg1"
      refine ws_appendPop (i := 3) (j := 2) (ds := N.map .str) (es := R.map .str) rfl rfl (by decide) ?_
      refine we_look 2 rfl ?_
      walk_at "go"
      rw [List.length_map]
      refine ⟨b, q, _, rfl, rfl, by omega, by omega, by omega, fun r h0 h4 => ?_⟩
      obtain ⟨k, rfl⟩ : ∃ k : Nat, r = (k : Int) := ⟨r.toNat, by omega⟩
      have hk : k < R.length := by omega
      refine ⟨rfl, k, .str R[k], rfl, by rw [List.getElem?_map, List.getElem?_eq_getElem hk]; rfl, by omega, by rw [List.length_map, sizeLine_eq]; omega, ?_⟩
      have er : (R.map D.str).eraseIdx k = (R.eraseIdx k).map .str := erase_map _ _ _
      refine ⟨by omega, N ++ [R[k]], R.eraseIdx k, .val (.int (0 + (i : Int))), by rw [List.length_append]; show N.length + 1 = _; omega, move_perm hk hp, ?_⟩
      rw [List.map_append, ← er]; rfl
    · rintro m ρ1 ⟨hm, N, R, x5, hN, hp, rfl⟩
      rw [rangeD_len] at hm hN
      have nd := (hp.nodup_iff.mpr PL_nodup)
      refine ws_freeze 3 rfl ?_
      walk_at "ws1"
      walk_at "go"
      exact kk N m hN (List.nodup_append.mp nd).1 (fun x hx => hp.mem_iff.mp (List.mem_append_left _ hx)) (by omega)
/-! events by draws -/
structure DrE (el : List Str) (e : Toy.Ev) : Prop where
  nm : e.nm ∈ PL
  new : e.nm ∉ el
  inn : ∀ x ∈ e.needs, x ∈ el
  pl : ∀ x ∈ e.needs, x ∈ PL
  nd : e.needs.Nodup
  le : e.needs.length ≤ 3
  lo : 1 ≤ e.at_
  hi : e.at_ ≤ 5
  kd : e.kind ∈ kinds2
def Built (es : List Toy.Ev) : Prop := es.length ≤ 8 ∧ ∀ i e, es[i]? = some e → DrE ((es.take i).map Toy.Ev.nm) e
theorem built_snoc {es : List Toy.Ev} {e : Toy.Ev} (h : Built es) (h8 : es.length < 8) (g : DrE (es.map Toy.Ev.nm) e) : Built (es ++ [e]) := by
  refine ⟨by rw [List.length_append]; show es.length + 1 ≤ 8; omega, fun i x hx => ?_⟩
  by_cases q : i < es.length
  · rw [List.getElem?_append_left q] at hx
    rw [List.take_append_of_le_length (Nat.le_of_lt q)]
    exact h.2 i x hx
  · rw [List.getElem?_append_right (by omega)] at hx
    have e0 : i - es.length = 0 := by
      cases z : i - es.length with
      | zero => rfl
      | succ k => rw [z] at hx; cases hx
    rw [e0] at hx
    have : i = es.length := by omega
    subst this
    cases hx
    rw [List.take_append_of_le_length (Nat.le_refl _), List.take_length]
    exact g
theorem kinds_ok {k : Str} (h : k ∈ kinds2) : okT k ∧ k.length ≤ 6 ∧ 32 ∉ tl k ∧ 10 ∉ tl k := by
  unfold kinds2 at h
  simp only [List.mem_cons, List.not_mem_nil, or_false] at h
  have q : ∀ k : Str, ((tl k).all (fun u => decide (u < 128)) && decide (k.length ≤ 6) && !(tl k).contains 32 && !(tl k).contains 10) = true → okT k ∧ k.length ≤ 6 ∧ 32 ∉ tl k ∧ 10 ∉ tl k := fun k h => by
    simp only [Bool.and_eq_true, Bool.not_eq_true', decide_eq_true_eq, List.all_eq_true] at h
    obtain ⟨⟨⟨h2, h3⟩, h4⟩, h5⟩ := h
    exact ⟨⟨h2, by omega⟩, h3, not_in h4, not_in h5⟩
  rcases h with rfl | rfl
  · exact q _ (by decide +kernel)
  · exact q _ (by decide +kernel)
theorem drE_well {el : List Str} {e : Toy.Ev} (h : DrE el e) : Well e :=
  ⟨(PL_ok h.nm).nm, h.lo, h.hi, h.kd, (PL_ok h.nm).ok, (kinds_ok h.kd).1, fun x hx => (PL_ok (h.pl x hx)).ok, by have := h.le; omega⟩
theorem built_mem {es : List Toy.Ev} (h : Built es) {e : Toy.Ev} (he : e ∈ es) : ∃ el, DrE el e := by
  obtain ⟨i, hi⟩ := List.getElem?_of_mem he
  exact ⟨_, h.2 i e hi⟩
theorem built_well {es : List Toy.Ev} (h : Built es) : ∀ e ∈ es, Well e := fun e he => by
  obtain ⟨el, g⟩ := built_mem h he
  exact drE_well g
theorem drE_fault {el : List Str} {e : Toy.Ev} (h : DrE el e) : faultOf el e = none := by
  refine (if_neg h.new).trans (if_neg fun q => ?_)
  rcases q with q | q
  · have := h.le; omega
  · have z : anyBad el e.needs = false := anyBad_no fun j hj => by
      unfold badAt
      have g : e.needs[j]? = some e.needs[j] := List.getElem?_eq_getElem hj
      rw [g]
      have h1 : e.needs[j] ∈ el := h.inn _ (List.getElem_mem hj)
      have h2 : e.needs[j] ∉ e.needs.take j := fun q => by
        have hdrop : e.needs[j] ∈ e.needs.drop j := List.mem_of_getElem? (i := 0) (by rw [List.getElem?_drop]; exact g)
        have nd := h.nd
        rw [← List.take_append_drop j e.needs] at nd
        exact (List.nodup_append.mp nd).2.2 _ q _ hdrop rfl
      show (!decide (e.needs[j] ∈ el) || decide (e.needs[j] ∈ e.needs.take j)) = false
      rw [decide_eq_true h1, decide_eq_false h2]; rfl
    rw [z] at q; cases q
theorem built_first {es : List Toy.Ev} (h : Built es) : firstF [] es = none := by
  have go : ∀ (l : List Toy.Ev) (el : List Str), (∀ i e, l[i]? = some e → DrE (el ++ (l.take i).map Toy.Ev.nm) e) → firstF el l = none := by
    intro l
    induction l with
    | nil => exact fun _ _ => rfl
    | cons e l ih =>
      intro el g
      have g0 := g 0 e rfl
      rw [List.take_zero, List.map_nil, List.append_nil] at g0
      rw [firstF_no (drE_fault g0)]
      refine ih _ fun i x hx => ?_
      have := g (i + 1) x hx
      rw [List.take_succ_cons, List.map_cons] at this
      rw [List.append_assoc]
      exact this
  exact go es [] fun i e he => by
    have := h.2 i e he
    rw [List.nil_append]
    exact this
abbrev evL (e : Toy.Ev) : D := .tup [.str e.nm, .int e.at_, .str e.kind, .lst (e.needs.map .str)]
def spDrawnL : L3.Spec := fun bag n ds Φ => ∃ (b q : Addr), bag = some (b, q) ∧ ds = [.adr b] ∧ n + 200 < 2 ^ 60 ∧ ∀ es n', Built es → n' ≤ n + 100 → Φ n' (.lst (es.map evL))
theorem two {r : Int} (h0 : 0 ≤ r) (h4 : r < 2) : r = 0 ∨ r = 1 := by omega
abbrev s_law_drawn_events : Stmt := top 26
abbrev N_law_drawn_events : List Str := ["bag", "names", "events", "place", "left", "needs", "turn"]
theorem sc_law_drawn_events : FnScope N_law_drawn_events ["bag"] (defScope s_law_drawn_events) := ⟨rfl, rfl, rfl, by decide +kernel, rfl, by decide +kernel, by decide +kernel⟩

theorem ok_drawnL {f : Addr} {fd : FuncData} (F : Fun K "_law_drawn_events" "_law_drawn_events" s_law_drawn_events f fd) (T : Txt mg) (D_law_draw : Dn P w K mg base "_law_draw" 1 ["bag", "limit"] [] [] spDraw) (D_law_names : Dn P w K mg base "_law_names" 2 ["bag", "many"] [] [] spNames) : FnOk P w K mg base CX0 3 f fd ["bag"] (spD K spDrawnL) := by
  refine fn_D F sc_law_drawn_events (fun bag n ds Φ h => ?_) (fun cdv A outer s H Ex O bag n ds Φ hr h => ?_)
  · obtain ⟨b, q, _, e, _⟩ := h
    rw [e]; rfl
  · obtain ⟨b, q, eb, e, hn, kk⟩ := h
    subst eb; subst e
    refine ⟨_, (pss_cons (ps_set (i := 1) sc_law_drawn_events.nd rfl (Or.inl rfl) (pe_call D_law_names.G (hr.mono (by decide)) (by rfl) D_law_names.m D_law_names.k D_law_names.b D_law_names.v pass0 (pa_cons (pv 0) (pa_cons (pe_call D_law_draw.G (hr.mono (by decide)) (by rfl) D_law_draw.m D_law_draw.k D_law_draw.b D_law_draw.v pass0 (pa_cons (pv 0) (pa_cons pe_int pa_nil))) pa_nil))))
  (pss_cons (ps_set (i := 2) sc_law_drawn_events.nd rfl (Or.inl rfl) (pe_lst pa_nil))
  (pss_cons (ps_for PassesOwn.never rfl (pi_range1 (by rfl) T.b_range (pa_cons (pe_callB (x_len K) (by rfl) T.b_len (by decide +kernel) (pa_cons (pv 1) pa_nil)) pa_nil)) (pg_name (i := 3) sc_law_drawn_events.nd rfl (Or.inl rfl)) (pss_cons (ps_set (i := 4) sc_law_drawn_events.nd rfl (Or.inl rfl) (pe_callTy (x_list K) (by rfl) T.b_list (by decide +kernel) (pa_cons (pe_slice (x_sl K) (pv 1) po_none (po_some (pv 3))) pa_nil)))
  (pss_cons (ps_set (i := 5) sc_law_drawn_events.nd rfl (Or.inl rfl) (pe_lst pa_nil))
  (pss_cons (ps_for PassesOwn.never rfl (pi_range1 (by rfl) T.b_range (pa_cons (pe_call D_law_draw.G (hr.mono (by decide)) (by rfl) D_law_draw.m D_law_draw.k D_law_draw.b D_law_draw.v pass0 (pa_cons (pv 0) (pa_cons pe_int pa_nil))) pa_nil)) (pg_name (i := 6) sc_law_drawn_events.nd rfl (Or.inl rfl)) (pss_one (ps_if (pt_cmpR op_gt (pe_callB (x_len K) (by rfl) T.b_len (by decide +kernel) (pa_cons (pv 4) pa_nil)) pe_int (nomark _)) (pss_one (ps_expr (pe_bm PySem.F.plainAttrs_list PySem.F.slot_list_append PySem.F.type_list_append mt_append (pv 5) (pa_cons (x_bm K (id := "list.pop") (pe_bm PySem.F.plainAttrs_list PySem.F.slot_list_pop PySem.F.type_list_pop mt_popAt (pv 4) (pa_cons (pe_call D_law_draw.G (hr.mono (by decide)) (by rfl) D_law_draw.m D_law_draw.k D_law_draw.b D_law_draw.v pass0 (pa_cons (pv 0) (pa_cons (pe_callB (x_len K) (by rfl) T.b_len (by decide +kernel) (pa_cons (pv 4) pa_nil)) pa_nil))) pa_nil))) pa_nil)))) pss_nil)))
  (pss_one (ps_expr (pe_bm PySem.F.plainAttrs_list PySem.F.slot_list_append PySem.F.type_list_append mt_append (pv 2) (pa_cons (pe_tup (pa_cons (pe_ix (x_ix K) (pv 1) (pv 3) (fun _ _ => rfl)) (pa_cons (pe_op (x_add K) pe_int (pe_call D_law_draw.G (hr.mono (by decide)) (by rfl) D_law_draw.m D_law_draw.k D_law_draw.b D_law_draw.v pass0 (pa_cons (pv 0) (pa_cons pe_int pa_nil)))) (pa_cons (pe_ix (x_ix K) (pe_lst (pa_cons pe_str (pa_cons pe_str pa_nil))) (pe_call D_law_draw.G (hr.mono (by decide)) (by rfl) D_law_draw.m D_law_draw.k D_law_draw.b D_law_draw.v pass0 (pa_cons (pv 0) (pa_cons pe_int pa_nil))) (fun _ _ => rfl)) (pa_cons (pv 5) pa_nil))))) pa_nil))))))))
  (pss_one (ps_ret (pv 2)))))), ?_⟩
    show WS _ _ [.val (.adr b), .un, .un, .un, .un, .un, .un] n _
    walk_at "ws1"
    walk_at "ws1"
    walk_at "go"
    refine ⟨b, q, 9, rfl, rfl, by decide, by decide, by omega, fun r h0 h4 => ?_⟩
    obtain ⟨c, rfl⟩ : ∃ c : Nat, r = (c : Int) := ⟨r.toNat, by omega⟩
    refine wa_nil ⟨b, q, c, rfl, rfl, by omega, by omega, fun N n0 hNl hNd hNm hn0 => ?_⟩
    walk_at "ws1"
    refine ws_own (i := 2) (Nat.le_of_ble_eq_true rfl) (wf_lst (wa_nil ⟨Nat.zero_le _, ?_⟩))
    walk_at "ws1"
    refine ws_for ?_
    walk_at "go"
    rw [List.length_map]
    refine ⟨by omega, by omega, ?_⟩
    have hcn : ((N.length : Nat) : Int).toNat = N.length := by omega
    rw [hcn]
    refine ⟨fun i m ρ => m ≤ n0 + 6 * i ∧ ∃ (es : List Toy.Ev) (x3 x4 x5 x6 : SD), es.map Toy.Ev.nm = N.take i ∧ Built es ∧ ρ = [.val (.adr b), .val (.lst (N.map .str)), .own (es.map evL), x3, x4, x5, x6], ⟨Nat.le_refl _, [], .un, .un, .un, .un, rfl, ⟨Nat.zero_le _, fun i e h => by simp at h⟩, rfl⟩, ?_, ?_⟩
    · rintro i m ρ1 d hd ⟨hm, es, x3, x4, x5, x6, hes, hg, rfl⟩
      obtain ⟨hi, rfl⟩ := rangeD_get hd
      have e0 : (0 : Int) + (i : Int) = (i : Int) := by omega
      rw [e0]
      have hesl : es.length = i := by
        have := congrArg List.length hes
        rw [List.length_map, List.length_take] at this
        omega
      have hNi : N[i]? = some N[i] := List.getElem?_eq_getElem hi
      have htn : (N.take i).Nodup := hNd.sublist (List.take_sublist _ _)
      walk_at "wg1"
      walk_at "ws1"
      refine ws_own (i := 4) (Nat.le_of_ble_eq_true rfl) (wf_list1 ?_)
      walk_at "go"
      rw [cut_to (by rw [List.length_map]; omega), ← List.map_take]
      walk_at "ws1"
      refine ws_own (i := 5) (Nat.le_of_ble_eq_true rfl) (wf_lst (wa_nil ⟨Nat.zero_le _, ?_⟩))
      refine ws_cut2 (Nx := fun n1 ρ1 => n1 ≤ m + 4 ∧ ∃ (M : List Str) (x4 x6 : SD), M.length ≤ 3 ∧ (∀ x ∈ M, x ∈ N.take i) ∧ M.Nodup ∧ ρ1 = [.val (.adr b), .val (.lst (N.map .str)), .own (es.map evL), .val (.int (i : Int)), x4, .own (M.map .str), x6]) ?_ ?_
      · refine ws_for ?_
        walk_at "go"
        refine ⟨b, q, 4, rfl, rfl, by decide, by decide, by omega, fun r h0 h4 => ?_⟩
        obtain ⟨c, rfl⟩ : ∃ c : Nat, r = (c : Int) := ⟨r.toNat, by omega⟩
        refine wa_nil ⟨_, rfl, by omega, by omega, ?_⟩
        have hcn : ((c : Nat) : Int).toNat = c := by omega
        rw [hcn]
        refine ⟨fun t m1 ρ => m1 ≤ m + 1 + t ∧ ∃ (L M : List Str) (x6 : SD), M.length ≤ t ∧ (M ++ L).Perm (N.take i) ∧ ρ = [.val (.adr b), .val (.lst (N.map .str)), .own (es.map evL), .val (.int (i : Int)), .own (L.map .str), .own (M.map .str), x6], ⟨Nat.le_refl _, N.take i, [], x6, Nat.le_refl _, List.Perm.refl _, rfl⟩, ?_, ?_⟩
        · rintro t m1 ρ1 d hd ⟨hm1, L, M, x6, hM, hp, rfl⟩
          obtain ⟨ht, rfl⟩ := rangeD_get hd
          have hl := hp.length_eq
          rw [List.length_append, List.length_take] at hl
          walk_at "wg1"
          refine ws_if (wt_look 4 rfl ?_)
          walk_at "go"
          rw [List.length_map]
          refine dec2 (fun h1 => ?_) (fun h1 => ?_)
          · refine ws_appendPop (i := 5) (j := 4) (ds := M.map .str) (es := L.map .str) rfl rfl (by decide) ?_
            refine we_look 4 rfl ?_
            walk_at "go"
            rw [List.length_map]
            refine ⟨b, q, _, rfl, rfl, by omega, by omega, by omega, fun r h0 h4 => ?_⟩
            obtain ⟨k, rfl⟩ : ∃ k : Nat, r = (k : Int) := ⟨r.toNat, by omega⟩
            have hk : k < L.length := by omega
            have er : (L.map D.str).eraseIdx k = (L.eraseIdx k).map .str := erase_map _ _ _
            refine ⟨rfl, k, .str L[k], rfl, by rw [List.getElem?_map, List.getElem?_eq_getElem hk]; rfl, by omega, by rw [List.length_map, sizeLine_eq]; omega, by omega, L.eraseIdx k, M ++ [L[k]], .val (.int (0 + (t : Int))), by rw [List.length_append]; show M.length + 1 ≤ _; omega, move_perm hk hp, ?_⟩
            rw [List.map_append, ← er]; rfl
          · walk_at "ws1"
            exact ⟨by omega, L, M, .val (.int (0 + (t : Int))), by omega, hp, rfl⟩
        · rintro m1 ρ1 ⟨hm1, L, M, x6, hM, hp, rfl⟩
          rw [rangeD_len] at hm1 hM
          have nd := hp.nodup_iff.mpr htn
          exact ⟨by omega, M, .own (L.map .str), x6, by omega, fun x hx => hp.mem_iff.mp (List.mem_append_left _ hx), (List.nodup_append.mp nd).1, rfl⟩
      rintro n1 ρ1 ⟨hn1, M, x4, x6, hM3, hMm, hMd, rfl⟩
      refine ws_freeze 5 rfl ?_
      refine ws_append (i := 2) (ds := es.map evL) rfl ?_
      walk_at "go"
      refine r2_ix (f := .str N[i]) (ixD_nat (by rw [List.getElem?_map, hNi]; rfl)) ?_
      walk_at "go"
      refine ⟨b, q, _, rfl, rfl, by omega, by omega, by omega, fun a ha0 ha1 => ?_⟩
      walk_at "go"
      refine ⟨Nat.le_of_ble_eq_true rfl, ?_⟩
      walk_at "go"
      refine ⟨b, q, 2, rfl, rfl, by decide, by decide, by omega, fun r h0 h4 => ?_⟩
      have h3 : ∃ kd : Str, kd ∈ kinds2 ∧ ixD (.lst [.str "query", .str "action"]) r = some (.str kd) := by
        obtain rfl | rfl := two h0 h4
        · exact ⟨"query", by decide +kernel, rfl⟩
        · exact ⟨"action", by decide +kernel, rfl⟩
      obtain ⟨kd, hkd, hix⟩ := h3
      refine r2_ix hix ?_
      walk_at "go"
      refine ⟨Nat.le_of_ble_eq_true rfl, by rw [List.length_map, sizeLine_eq]; omega, ?_⟩
      refine ⟨by omega, es ++ [(⟨N[i], 1 + a, kd, M⟩ : Toy.Ev)], .val (.int i), x4, .val (.lst (M.map .str)), x6, by rw [List.map_append, hes, List.take_succ_eq_append_getElem hi]; rfl, built_snoc hg (by omega) ?_, by rw [List.map_append]; rfl⟩
      rw [hes]
      refine ⟨hNm _ (List.getElem_mem hi), fun z => ?_, hMm, fun x hx => hNm x (List.mem_of_mem_take (hMm x hx)), hMd, hM3, (show 1 ≤ 1 + a by omega), (show 1 + a ≤ 5 by omega), hkd⟩
      have nd2 : (N.take i ++ [N[i]]).Nodup := by rw [← List.take_succ_eq_append_getElem hi]; exact hNd.sublist (List.take_sublist _ _)
      exact (List.nodup_append.mp nd2).2.2 _ z _ (List.mem_singleton.mpr rfl) rfl
    · rintro m ρ1 ⟨hm, es, x3, x4, x5, x6, hes, hg, rfl⟩
      rw [rangeD_len] at hm hes
      refine ws_freeze 2 rfl ?_
      walk_at "ws1"
      walk_at "go"
      exact kk es m hg (by omega)

end
end Toy
namespace Toy
open PySem L2 L3 TL
local macro_rules | `(tactic| walk_at "we1") => `(tactic| first
  | ((with_reducible refine' we_var ?hv ?_); (case hv => rfl))
  | (with_reducible refine we_int ?_)
  | (with_reducible refine we_str ?_)
  | (with_reducible refine we_bl ?_)
  | (with_reducible refine we_non ?_)
  | ((with_reducible refine' we_dix ?hv ?_); (case hv => rfl))
  | (with_reducible refine we_op ?_)
  | ((with_reducible refine' we_dget ?hv ?_); (case hv => rfl))
  | (with_reducible refine we_count ?_)
  | (with_reducible refine we_cb ?_)
  | (with_reducible refine we_call0 ?_)
  | (with_reducible refine we_tup ?_)
  | (with_reducible refine we_lst ?_)
  | (with_reducible refine we_if ?_)
  | (with_reducible refine we_not ?_)
  | (with_reducible refine we_and ?_)
  | (with_reducible refine we_or ?_)
  | (with_reducible refine we_isN ?_)
  | (with_reducible refine we_notN ?_)
  | (with_reducible refine we_sl ?_)
  | (with_reducible refine wa_cons ?_)
  | (with_reducible refine wa_nil ?_)
  | (with_reducible refine wt_test ?_)
  | (with_reducible refine wt_B ?_)
  | (with_reducible refine wt_and ?_)
  | (with_reducible refine wt_or ?_)
  | (with_reducible refine wt_not ?_)
  | (with_reducible refine wt_yes ?_)
  | (with_reducible refine wo_none ?_)
  | (with_reducible refine wo_some ?_)
  | ((with_reducible refine' r2_ix ?hx ?_); (case hx => rfl))
  | (with_reducible refine r2_isN ?_)
  | (with_reducible refine r2_notN ?_)
  | (with_reducible refine r2_lt ?_)
  | (with_reducible refine r2_le ?_)
  | (with_reducible refine r2_gt ?_)
  | (with_reducible refine r2_ge ?_)
  | (with_reducible refine r2_sub ?_)
  | (with_reducible refine r2_addI ?_)
  | (with_reducible refine r2_eqI ?_)
  | (with_reducible refine r2_neI ?_)
  | (with_reducible refine rc_int ?_)
  | (with_reducible refine rc_abs ?_)
  | ((with_reducible refine' rc_len ?hl ?_); (case hl => rfl))
  | (with_reducible refine wi_seq ?_)
  | (with_reducible refine wi_rng1 ?_)
  | (with_reducible refine wi_rng2 ?_)
  | (with_reducible refine wi_enum ?_)
  | (refine ⟨_, rfl, ?_⟩))
local macro_rules | `(tactic| walk_at "ws1") => `(tactic| first
  | (with_reducible refine ws_seq ?_)
  | (with_reducible refine ws_set ?_)
  | (with_reducible refine ws_ret ?_)
  | (with_reducible refine ws_if ?_)
  | (with_reducible refine ws_next ?_)
  | (with_reducible refine ws_asg ?_))
local macro_rules | `(tactic| walk_at "wg1") => `(tactic| first
  | (with_reducible refine wg_name (rw_name (by decide)) ?_)
  | (with_reducible refine wg_name (fun _ _ => trivial) ?_)
  | ((with_reducible refine' wg_tup ?hl ?_); (case hl => rfl))
  | (with_reducible refine wgs_cons rw_trans ?_)
  | (with_reducible refine wgs_nil rw_refl ?_)
  | (with_reducible refine wgs_cons (fun _ _ _ _ _ => trivial) ?_)
  | (with_reducible refine wgs_nil (fun _ => trivial) ?_))
local macro_rules | `(tactic| walk_at "go") => `(tactic| repeat' (first | walk_at "we1" | walk_at "wg1"))
section
variable {P : Program} {w : World} {K : PySem.W.Frag} {mg : Str → Option Value} {base : Heap}
/-! the law's own text -/
theorem joinL_snoc (S q : List Nat) : ∀ ps : List (List Nat), ps ≠ [] → joinL S (ps ++ [q]) = joinL S ps ++ (S ++ q)
  | [], h => absurd rfl h
  | [p], _ => rfl
  | p :: r :: ps, _ => by
    show p ++ (S ++ joinL S ((r :: ps) ++ [q])) = (p ++ (S ++ joinL S (r :: ps))) ++ (S ++ q)
    rw [joinL_snoc S q (r :: ps) (by simp)]
    simp
theorem join_snoc (y q : Str) (ps : List Str) (h : ps ≠ []) : Txt.join y (ps ++ [q]) = Txt.join y ps ++ y ++ q := by
  refine ext_tl ?_
  rw [join_eq, join_eq, tl_append, tl_append, tl_join, tl_join, List.map_append]
  rw [show [q].map tl = [tl q] from rfl, joinL_snoc _ _ _ (fun e => h (List.map_eq_nil_iff.mp e)), List.append_assoc]
theorem strlen_append (a b : Str) : (a ++ b).length = a.length + b.length := by
  rw [len_tl, tl_append, List.length_append, ← len_tl, ← len_tl]
theorem join_one (y q : Str) : Txt.join y [q] = q := by
  rw [join_eq]; rfl
def spLText : L3.Spec := fun bag n ds Φ => ∃ es : List Toy.Ev, ds = [.lst (es.map evL)] ∧ es.length ≤ 12 ∧ (∀ e ∈ es, Well e) ∧ Φ n (.str (textT es))
abbrev s_law_text : Stmt := top 27
abbrev N_law_text : List Str := ["events", "rows", "name", "end", "kind", "needs", "row", "need"]
theorem sc_law_text : FnScope N_law_text ["events"] (defScope s_law_text) := ⟨rfl, rfl, rfl, by decide +kernel, rfl, by decide +kernel, by decide +kernel⟩

theorem ok_ltext {f : Addr} {fd : FuncData} (F : Fun K "_law_text" "_law_text" s_law_text f fd) (T : Txt mg) : FnOk P w K mg base CX0 1 f fd ["events"] (spD K spLText) := by
  refine fn_D F sc_law_text (fun bag n ds Φ h => ?_) (fun cdv A outer s H Ex O bag n ds Φ hr h => ?_)
  · obtain ⟨e, he, _⟩ := h
    rw [he]; rfl
  · obtain ⟨es, he, h12, hw, kk⟩ := h
    subst he
    refine ⟨_, (pss_cons (ps_set (i := 1) sc_law_text.nd rfl (Or.inl rfl) (pe_lst pa_nil))
  (pss_cons (ps_for PassesOwn.never rfl (x_seq K (pv 0)) (x_tgt K (pg_tup (by rfl) (pgs_cons (pg_name (i := 2) sc_law_text.nd rfl (Or.inl rfl)) (pgs_cons (pg_name (i := 3) sc_law_text.nd rfl (Or.inl rfl)) (pgs_cons (pg_name (i := 4) sc_law_text.nd rfl (Or.inl rfl)) (pgs_cons (pg_name (i := 5) sc_law_text.nd rfl (Or.inl rfl)) pgs_nil)))))) (pss_cons (ps_set (i := 6) sc_law_text.nd rfl (Or.inl rfl) (pe_op (x_add K) (pe_op (x_add K) (pe_op (x_add K) (pe_op (x_add K) (pv 4) pe_str) (pv 2)) pe_str) (pe_callTy call_str_int (by rfl) T.b_str (by decide +kernel) (pa_cons (pv 3) pa_nil))))
  (pss_cons (ps_for PassesOwn.never rfl (x_seq K (pv 5)) (pg_name (i := 7) sc_law_text.nd rfl (Or.inl rfl)) (pss_one (ps_set (i := 6) sc_law_text.nd rfl (Or.inl rfl) (pe_op (x_add K) (pe_op (x_add K) (pv 6) pe_str) (pv 7)))))
  (pss_one (ps_expr (pe_bm PySem.F.plainAttrs_list PySem.F.slot_list_append PySem.F.type_list_append mt_append (pv 1) (pa_cons (pv 6) pa_nil)))))))
  (pss_one (ps_ret (pe_join pe_str (pv 1)))))), ?_⟩
    show WS _ _ [.val (.lst (es.map evL)), .un, .un, .un, .un, .un, .un, .un] n _
    walk_at "ws1"
    refine ws_own (i := 1) (Nat.le_of_ble_eq_true rfl) (wf_lst (wa_nil ⟨Nat.zero_le _, ?_⟩))
    walk_at "ws1"
    refine ws_for ?_
    walk_at "go"
    refine ⟨fun i m ρ => m = n ∧ ∃ x2 x3 x4 x5 x6 x7, ρ = [.val (.lst (es.map evL)), .own (((es.take i).map rowT).map .str), x2, x3, x4, x5, x6, x7], ⟨rfl, _, _, _, _, _, _, rfl⟩, ?_, ?_⟩
    · rintro i m ρ1 d hd ⟨rfl, x2, x3, x4, x5, x6, x7, rfl⟩
      obtain ⟨e, hee, rfl, hm, tk⟩ := map_at hd
      have we := hw e hm
      have sl : (sep 32).length = 1 := rfl
      have l1 := we.tk.2
      have l2 := we.tn.2
      have l3 := at_len we
      have ia : e.at_.natAbs.log2 < 1920 := by
        have h1 := we.lo
        have h2 := we.hi
        exact Nat.lt_of_le_of_lt (Nat.log2_le_self _) (by omega)
      walk_at "go"
      refine ws_cut (fun n1 ρ1 => n1 = m ∧ ρ1 = [.val (.lst (es.map evL)), .own (((es.take i).map rowT).map .str), .val (.str e.nm), .val (.int e.at_), .val (.str e.kind), .val (.lst (e.needs.map .str)), .val (.str (Txt.join (sep 32) [e.kind, e.nm, ((toString e.at_ : String) : Str)])), x7]) ?_ ?_
      · refine ws_set ?_
        walk_at "go"
        refine r2_catS (by rw [show (" " : Str).length = 1 from rfl]; omega) ?_
        walk_at "go"
        refine r2_catS (by rw [strlen_append, show (" " : Str).length = 1 from rfl]; omega) ?_
        walk_at "go"
        refine r2_catS (by rw [strlen_append, strlen_append, show (" " : Str).length = 1 from rfl]; omega) ?_
        walk_at "go"
        refine rc_strI ia ?_
        refine r2_catS (by rw [strlen_append, strlen_append, strlen_append, show (" " : Str).length = 1 from rfl]; omega) ?_
        refine ⟨rfl, ?_⟩
        rw [show [e.kind, e.nm, ((toString e.at_ : String) : Str)] = ([e.kind] ++ [e.nm]) ++ [((toString e.at_ : String) : Str)] from rfl, join_snoc _ _ _ (by simp), join_snoc _ _ _ (by simp), join_one, sp_is]
        rfl
      rintro n1 ρ1 ⟨rfl, rfl⟩
      refine ws_cut (fun n2 ρ1 => n2 = n1 ∧ ∃ x7, ρ1 = [.val (.lst (es.map evL)), .own (((es.take i).map rowT).map .str), .val (.str e.nm), .val (.int e.at_), .val (.str e.kind), .val (.lst (e.needs.map .str)), .val (.str (rowT e)), x7]) ?_ ?_
      · refine ws_for ?_
        walk_at "go"
        refine ⟨fun j m ρ => m = n1 ∧ ∃ x7, ρ = [.val (.lst (es.map evL)), .own (((es.take i).map rowT).map .str), .val (.str e.nm), .val (.int e.at_), .val (.str e.kind), .val (.lst (e.needs.map .str)), .val (.str (Txt.join (sep 32) ([e.kind, e.nm, ((toString e.at_ : String) : Str)] ++ e.needs.take j))), x7], ⟨rfl, _, rfl⟩, ?_, ?_⟩
        · rintro j m ρ1 d hd ⟨rfl, x7, rfl⟩
          obtain ⟨x, hx, rfl, hxm, tk2⟩ := map_at hd
          have lx := (we.ts x hxm).2
          have lj : (Txt.join (sep 32) ([e.kind, e.nm, ((toString e.at_ : String) : Str)] ++ e.needs.take j)).length ≤ 1004003 := by
            refine Nat.le_trans (join_len _ _) ?_
            have z := sum_le 1000 ([e.kind, e.nm, ((toString e.at_ : String) : Str)] ++ e.needs.take j) fun y hy => row_parts we y (by
              rcases List.mem_append.mp hy with q | q
              · exact List.mem_append_left _ q
              · exact List.mem_append_right _ (List.mem_of_mem_take q))
            have h4 : ([e.kind, e.nm, ((toString e.at_ : String) : Str)] ++ e.needs.take j).length = 3 + (e.needs.take j).length := by rw [List.length_append]; rfl
            have h5 : (e.needs.take j).length ≤ 1000 := by rw [List.length_take]; have := we.le; omega
            rw [h4] at z ⊢
            rw [sl]
            omega
          walk_at "go"
          refine ws_set ?_
          walk_at "go"
          refine r2_catS (by rw [show (" " : Str).length = 1 from rfl]; omega) ?_
          walk_at "go"
          refine r2_catS (by rw [strlen_append, show (" " : Str).length = 1 from rfl]; omega) ?_
          refine ⟨rfl, .val (.str x), ?_⟩
          rw [tk2, ← List.append_assoc, join_snoc _ _ _ (by simp), sp_is]
          rfl
        · rintro m ρ1 ⟨rfl, x7, rfl⟩
          rw [List.length_map, List.take_length]
          exact ⟨rfl, x7, rfl⟩
      rintro n2 ρ2 ⟨rfl, x7, rfl⟩
      refine ws_append (i := 1) (ds := ((es.take i).map rowT).map .str) rfl ?_
      walk_at "go"
      refine ⟨by rw [List.length_map, List.length_map, List.length_take, sizeLine_eq]; omega, rfl, .val (.str e.nm), .val (.int e.at_), .val (.str e.kind), .val (.lst (e.needs.map .str)), .val (.str (rowT e)), x7, ?_⟩
      rw [tk, List.map_append, List.map_append]; rfl
    · rintro m ρ1 ⟨rfl, x2, x3, x4, x5, x6, x7, rfl⟩
      rw [List.length_map, List.take_length]
      refine ws_freeze 1 rfl ?_
      walk_at "ws1"
      refine we_join ?_
      walk_at "we1"
      refine ⟨_, rfl, ?_⟩
      walk_at "we1"
      have z := sum_le 1004003 (es.map rowT) fun x hx => by
        obtain ⟨e, he, rfl⟩ := List.mem_map.mp hx
        exact row_le (hw e he)
      refine ⟨es.map rowT, rfl, ?_, ?_⟩
      · rw [nl_is]
        have h3 : (sep 10).length = 1 := rfl
        rw [h3]
        rw [List.length_map] at z ⊢
        omega
      · rw [nl_is]; exact kk

end
end Toy
namespace Toy
open PySem L2 L3 TL
local macro_rules | `(tactic| walk_at "we1") => `(tactic| first
  | ((with_reducible refine' we_var ?hv ?_); (case hv => rfl))
  | (with_reducible refine we_int ?_)
  | (with_reducible refine we_str ?_)
  | (with_reducible refine we_bl ?_)
  | (with_reducible refine we_non ?_)
  | ((with_reducible refine' we_dix ?hv ?_); (case hv => rfl))
  | (with_reducible refine we_op ?_)
  | ((with_reducible refine' we_dget ?hv ?_); (case hv => rfl))
  | (with_reducible refine we_count ?_)
  | (with_reducible refine we_cb ?_)
  | (with_reducible refine we_call0 ?_)
  | (with_reducible refine we_tup ?_)
  | (with_reducible refine we_lst ?_)
  | (with_reducible refine we_if ?_)
  | (with_reducible refine we_not ?_)
  | (with_reducible refine we_and ?_)
  | (with_reducible refine we_or ?_)
  | (with_reducible refine we_isN ?_)
  | (with_reducible refine we_notN ?_)
  | (with_reducible refine we_sl ?_)
  | (with_reducible refine wa_cons ?_)
  | (with_reducible refine wa_nil ?_)
  | (with_reducible refine wt_test ?_)
  | (with_reducible refine wt_B ?_)
  | (with_reducible refine wt_and ?_)
  | (with_reducible refine wt_or ?_)
  | (with_reducible refine wt_not ?_)
  | (with_reducible refine wt_yes ?_)
  | (with_reducible refine wo_none ?_)
  | (with_reducible refine wo_some ?_)
  | ((with_reducible refine' r2_ix ?hx ?_); (case hx => rfl))
  | (with_reducible refine r2_isN ?_)
  | (with_reducible refine r2_notN ?_)
  | (with_reducible refine r2_lt ?_)
  | (with_reducible refine r2_le ?_)
  | (with_reducible refine r2_gt ?_)
  | (with_reducible refine r2_ge ?_)
  | (with_reducible refine r2_sub ?_)
  | (with_reducible refine r2_addI ?_)
  | (with_reducible refine r2_eqI ?_)
  | (with_reducible refine r2_neI ?_)
  | (with_reducible refine rc_int ?_)
  | (with_reducible refine rc_abs ?_)
  | ((with_reducible refine' rc_len ?hl ?_); (case hl => rfl))
  | (with_reducible refine wi_seq ?_)
  | (with_reducible refine wi_rng1 ?_)
  | (with_reducible refine wi_rng2 ?_)
  | (with_reducible refine wi_enum ?_)
  | (refine ⟨_, rfl, ?_⟩))
local macro_rules | `(tactic| walk_at "ws1") => `(tactic| first
  | (with_reducible refine ws_seq ?_)
  | (with_reducible refine ws_set ?_)
  | (with_reducible refine ws_ret ?_)
  | (with_reducible refine ws_if ?_)
  | (with_reducible refine ws_next ?_)
  | (with_reducible refine ws_asg ?_))
local macro_rules | `(tactic| walk_at "wg1") => `(tactic| first
  | (with_reducible refine wg_name (rw_name (by decide)) ?_)
  | (with_reducible refine wg_name (fun _ _ => trivial) ?_)
  | ((with_reducible refine' wg_tup ?hl ?_); (case hl => rfl))
  | (with_reducible refine wgs_cons rw_trans ?_)
  | (with_reducible refine wgs_nil rw_refl ?_)
  | (with_reducible refine wgs_cons (fun _ _ _ _ _ => trivial) ?_)
  | (with_reducible refine wgs_nil (fun _ => trivial) ?_))
local macro_rules | `(tactic| walk_at "go") => `(tactic| repeat' (first | walk_at "we1" | walk_at "wg1"))
section
variable {P : Program} {w : World} {K : PySem.W.Frag} {mg : Str → Option Value} {base : Heap}
def spLName : L3.Spec := fun bag n ds Φ => ∃ z : Str, ds = [.str z] ∧ okT z ∧ Φ n (.bl (isName z))
def outSign : D → Bool
  | .str x => !decide (x.cps.toList.headD 0 ∈ signs36.cps.toList)
  | _ => false
abbrev s_law_is_name : Stmt := top 28
abbrev N_law_is_name : List Str := ["word", "sign"]
theorem sc_law_is_name : FnScope N_law_is_name ["word"] (defScope s_law_is_name) := ⟨rfl, rfl, rfl, by decide +kernel, rfl, by decide +kernel, by decide +kernel⟩

theorem ok_lname {f : Addr} {fd : FuncData} (F : Fun K "_law_is_name" "_law_is_name" s_law_is_name f fd) (T : Txt mg) : FnOk P w K mg base CX0 1 f fd ["word"] (spD K spLName) := by
  refine fn_D F sc_law_is_name (fun bag n ds Φ h => ?_) (fun cdv A outer s H Ex O bag n ds Φ hr h => ?_)
  · obtain ⟨e, he, _⟩ := h
    rw [he]; rfl
  · obtain ⟨z, he, oz, kk⟩ := h
    subst he
    have hz : z.cps.size ≤ 1000 := oz.2
    refine ⟨_, (pss_cons (ps_if (PW.pt (pw_or (pt_cmpR op_lt (pe_callB (x_len K) (by rfl) T.b_len (by decide +kernel) (pa_cons (pv 0) pa_nil)) pe_int (nomark _)) (pw_or (pt_cmpR op_gt (pe_callB (x_len K) (by rfl) T.b_len (by decide +kernel) (pa_cons (pv 0) pa_nil)) pe_int (nomark _)) (pw_or1 (pt_cmpR L2.op_notInS (pe_ix (x_ix K) (pv 0) pe_int (fun _ _ => rfl)) pe_str (by with_unfolding_all rfl)))))) (pss_one (ps_ret pe_bl)) pss_nil)
  (pss_one (ps_ret (pe_cmpR (x_eq K (by exact hr.units)) (pe_callB (x_len K) (by rfl) T.b_len (by decide +kernel) (pa_cons (pe_lc (own := [("sign", 1)]) (g := gName 1) rfl sc_law_is_name.nd (pi_str (pv 0)) (blkOk_by (own := [("sign", 1)]) (N := N_law_is_name) (sc := defScope s_law_is_name) (by decide +kernel)) (fun _ _ _ _ _ => (pg_name (i := 1) sc_law_is_name.nd rfl (Or.inl rfl))) (fun _ _ _ _ _ => (pts_one (pt_cmpR L2.op_notInS (pv 1) pe_str (by with_unfolding_all rfl)))) (fun _ _ _ _ _ => (pv 1))) pa_nil)) pe_int (nomark _))))), ?_⟩
    show WS _ _ [.val (.str z), .un] n _
    walk_at "ws1"
    refine ws_if ?_
    walk_at "go"
    refine rc_len (str_len hz) ?_
    walk_at "go"
    refine dec2 (fun h1 => ?_) (fun h1 => ?_)
    · refine itT rfl ?_
      walk_at "ws1"
      walk_at "go"
      have : isName z = false := by
        unfold isName
        rw [decide_eq_false (by omega : ¬ 1 ≤ z.cps.size)]
        rfl
      rw [this] at kk
      exact kk
    walk_at "go"
    refine rc_len (str_len hz) ?_
    walk_at "go"
    refine dec2 (fun h2 => ?_) (fun h2 => ?_)
    · refine itT rfl ?_
      walk_at "ws1"
      walk_at "go"
      have : isName z = false := by
        unfold isName
        rw [decide_eq_false (by omega : ¬ z.cps.size ≤ 8), Bool.and_false]
        rfl
      rw [this] at kk
      exact kk
    have hN : isName z = (decide (z.cps.toList.headD 0 ∈ letters.cps.toList) && z.cps.toList.all fun u => decide (u ∈ signs36.cps.toList)) := by
      unfold isName
      rw [decide_eq_true (by omega : 1 ≤ z.cps.size), decide_eq_true (by omega : z.cps.size ≤ 8)]
      rfl
    rw [hN] at kk
    walk_at "go"
    refine r2_ix (head_in (by omega) hz) ?_
    walk_at "go"
    refine r2_notSign ?_
    rw [show (("abcdefghijklmnopqrstuvwxyz" : Str)) = letters from rfl]
    by_cases h3 : z.cps.toList.headD 0 ∈ letters.cps.toList
    case neg =>
      rw [decide_eq_false h3] at kk ⊢
      refine ⟨_, rfl, itT rfl ?_⟩
      walk_at "ws1"
      walk_at "go"
      exact kk
    rw [decide_eq_true h3] at kk ⊢
    refine ⟨_, rfl, itF rfl ?_⟩
    walk_at "ws1"
    walk_at "ws1"
    walk_at "go"
    refine wf_we (wf_map id outSign ?_)
    refine wi_str ?_
    walk_at "go"
    refine ⟨?_, fun d hd m => ?_, ?_⟩
    · unfold signsD; rw [List.length_map, Array.length_toList]; omega
    · obtain ⟨u, _, rfl⟩ := List.mem_map.mp hd
      walk_at "go"
      refine r2_notSign ?_
      refine ⟨_, rfl, rfl, rfl, fun _ => ?_⟩
      walk_at "go"
      exact ⟨rfl, rfl⟩
    walk_at "go"
    have e1 : decide (((((signsD z).filter outSign).map id).length : Int) = 0) = z.cps.toList.all fun u => decide (u ∈ signs36.cps.toList) := by
      rw [List.length_map]
      have e2 : ((signsD z).filter outSign).length = (z.cps.toList.filter fun u => !decide (u ∈ signs36.cps.toList)).length := by
        unfold signsD
        rw [List.filter_map, List.length_map]; rfl
      rw [e2]
      cases h : z.cps.toList.all fun u => decide (u ∈ signs36.cps.toList) with
      | true =>
        have e3 : (z.cps.toList.filter fun u => !decide (u ∈ signs36.cps.toList)) = [] := List.filter_eq_nil_iff.mpr fun u hu => by
          have := List.all_eq_true.mp h u hu
          rw [this]; decide
        rw [e3]; rfl
      | false =>
        obtain ⟨u, hu, q⟩ := List.all_eq_false.mp h
        have hm : u ∈ z.cps.toList.filter fun u => !decide (u ∈ signs36.cps.toList) := List.mem_filter.mpr ⟨hu, by simpa using q⟩
        refine decide_eq_false fun z => ?_
        have := List.length_pos_of_mem hm
        omega
    rw [e1]
    exact kk
/-! what the law reads of a text -/
def readD (rows : List Str) : D := match badRow 0 rows with
  | some i => .tup [.str "row", .int (i : Int)]
  | none => match firstF [] (evsOf rows) with
    | some (w, x) => .tup [.str w, .str x]
    | none => .tup [.str "events", .lst ((evsOf rows).map evL)]
theorem readD_bad {rows : List Str} {i : Nat} (h : badRow 0 rows = some i) : readD rows = .tup [.str "row", .int (i : Int)] := by
  unfold readD; rw [h]
theorem readD_no {rows : List Str} (h : badRow 0 rows = none) {w x : Str} (h2 : firstF [] (evsOf rows) = some (w, x)) : readD rows = .tup [.str w, .str x] := by
  unfold readD; rw [h]
  show (match firstF [] (evsOf rows) with | some (w, x) => D.tup [.str w, .str x] | none => _) = _
  rw [h2]
theorem readD_ok {rows : List Str} (h : badRow 0 rows = none) (h2 : firstF [] (evsOf rows) = none) : readD rows = .tup [.str "events", .lst ((evsOf rows).map evL)] := by
  unfold readD; rw [h]
  show (match firstF [] (evsOf rows) with | some (w, x) => D.tup [.str w, .str x] | none => _) = _
  rw [h2]
def spRead : L3.Spec := fun bag n ds Φ => ∃ text : Str, ds = [.str text] ∧ okT text ∧ (rowsOf text).length ≤ 12 ∧ Φ n (readD (rowsOf text))
def notNm : D → Bool
  | .str z => !isName z
  | _ => false
def headD' : D → D
  | .tup (x :: _) => x
  | _ => .non
theorem heads_is (es : List Toy.Ev) : (es.map evL).map headD' = (es.map Toy.Ev.nm).map .str := by rw [List.map_map, List.map_map]; rfl
def badD (el ns : List Str) : D → Bool
  | .int k => badAt el ns k.toNat
  | _ => false
theorem badD_len (el ns : List Str) : (((rangeD 0 ns.length).filter (badD el ns)).length = 0) ↔ anyBad el ns = false := by
  unfold rangeD anyBad
  rw [List.filter_map, List.length_map]
  have e : (badD el ns ∘ fun k : Nat => D.int (0 + (k : Int))) = badAt el ns := by
    funext k
    show badAt el ns (0 + (k : Int)).toNat = _
    congr 1; omega
  rw [e, List.length_eq_zero_iff, List.filter_eq_nil_iff, List.any_eq_false]
abbrev s_law_read : Stmt := top 29
abbrev N_law_read : List Str := ["text", "rows", "events", "place", "row", "words", "word", "event", "other", "elder", "needs", "k", "bad"]
theorem sc_law_read : FnScope N_law_read ["text"] (defScope s_law_read) := ⟨rfl, rfl, rfl, by decide +kernel, rfl, by decide +kernel, by decide +kernel⟩

theorem ok_lread {f : Addr} {fd : FuncData} (F : Fun K "_law_read" "_law_read" s_law_read f fd) (T : Txt mg) (D_law_is_name : Dn P w K mg base "_law_is_name" 1 ["word"] [] [] spLName) : FnOk P w K mg base CX0 2 f fd ["text"] (spD K spRead) := by
  refine fn_D F sc_law_read (fun bag n ds Φ h => ?_) (fun cdv A outer s H Ex O bag n ds Φ hr h => ?_)
  · obtain ⟨e, he, _⟩ := h
    rw [he]; rfl
  · obtain ⟨text, he, ht, h12, kk⟩ := h
    subst he
    have hok := rows_ok ht
    have hr1 : text ≠ "" → rowsOf text = Txt.split text (sep 10) := fun q => if_neg q
    have hr0 : text = "" → rowsOf text = [] := fun q => if_pos q
    generalize hR : rowsOf text = rows at kk h12 hok hr1 hr0
    refine ⟨_, (pss_cons (ps_set (i := 1) sc_law_read.nd rfl (Or.inl rfl) (pe_ifExp (pt_cmpR (x_ne K (by exact hr.units)) (pv 0) pe_str (nomark _)) (pe_split (pv 0) pe_str) (pe_lst pa_nil)))
  (pss_cons (ps_set (i := 2) sc_law_read.nd rfl (Or.inl rfl) (pe_lst pa_nil))
  (pss_cons (ps_for PassesOwn.never rfl (x_enum K (by rfl) T.b_enumerate (pa_cons (pv 1) pa_nil)) (x_tgt K (pg_tup (by rfl) (pgs_cons (pg_name (i := 3) sc_law_read.nd rfl (Or.inl rfl)) (pgs_cons (pg_name (i := 4) sc_law_read.nd rfl (Or.inl rfl)) pgs_nil)))) (pss_cons (ps_set (i := 5) sc_law_read.nd rfl (Or.inl rfl) (pe_split (pv 4) pe_str))
  (pss_cons (ps_if (PW.pt (pw_or (pt_cmpR op_lt (pe_callB (x_len K) (by rfl) T.b_len (by decide +kernel) (pa_cons (pv 5) pa_nil)) pe_int (nomark _)) (pw_or (pt_cmpR (x_notIn K (by exact hu65 hr)) (pe_ix (x_ix K) (pv 5) pe_int (fun _ _ => rfl)) (pe_tup (pa_cons pe_str (pa_cons pe_str pa_nil))) (by with_unfolding_all rfl)) (pw_or1 (pt_cmpR (x_notIn K (by exact hu65 hr)) (pe_ix (x_ix K) (pv 5) pe_int (fun _ _ => rfl)) (pe_tup (pa_cons pe_str (pa_cons pe_str (pa_cons pe_str (pa_cons pe_str (pa_cons pe_str pa_nil)))))) (by with_unfolding_all rfl)))))) (pss_one (ps_ret (pe_tup (pa_cons pe_str (pa_cons (pv 3) pa_nil))))) pss_nil)
  (pss_cons (ps_if (PW.pt (pw_or (pt_not (pt_val (pe_call D_law_is_name.G (hr.mono (by decide)) (by rfl) D_law_is_name.m D_law_is_name.k D_law_is_name.b D_law_is_name.v pass0 (pa_cons (pe_ix (x_ix K) (pv 5) pe_int (fun _ _ => rfl)) pa_nil)))) (pw_or1 (pt_cmpR op_gt (pe_callB (x_len K) (by rfl) T.b_len (by decide +kernel) (pa_cons (pe_lc (own := [("word", 6)]) (g := gName 6) rfl sc_law_read.nd (x_seq K (pe_slice (x_sl K) (pv 5) (po_some pe_int) po_none)) (blkOk_by (own := [("word", 6)]) (N := N_law_read) (sc := defScope s_law_read) (by decide +kernel)) (fun _ _ _ _ _ => (pg_name (i := 6) sc_law_read.nd rfl (Or.inl rfl))) (fun _ _ _ _ _ => (pts_one (pt_not (pt_val (pe_call D_law_is_name.G (hr.mono (by decide)) (by rfl) D_law_is_name.m D_law_is_name.k D_law_is_name.b D_law_is_name.v pass0 (pa_cons (pv 6) pa_nil)))))) (fun _ _ _ _ _ => (pv 6))) pa_nil)) pe_int (nomark _))))) (pss_one (ps_ret (pe_tup (pa_cons pe_str (pa_cons (pv 3) pa_nil))))) pss_nil)
  (pss_one (ps_expr (pe_bm PySem.F.plainAttrs_list PySem.F.slot_list_append PySem.F.type_list_append mt_append (pv 2) (pa_cons (pe_tup (pa_cons (pe_ix (x_ix K) (pv 5) pe_int (fun _ _ => rfl)) (pa_cons (pe_callTy call_int_str (by rfl) T.b_int (by decide +kernel) (pa_cons (pe_ix (x_ix K) (pv 5) pe_int (fun _ _ => rfl)) pa_nil)) (pa_cons (pe_ix (x_ix K) (pv 5) pe_int (fun _ _ => rfl)) (pa_cons (pe_slice (x_sl K) (pv 5) (po_some pe_int) po_none) pa_nil))))) pa_nil))))))))
  (pss_cons (ps_for PassesOwn.never rfl (x_enum K (by rfl) T.b_enumerate (pa_cons (pv 2) pa_nil)) (x_tgt K (pg_tup (by rfl) (pgs_cons (pg_name (i := 3) sc_law_read.nd rfl (Or.inl rfl)) (pgs_cons (pg_name (i := 7) sc_law_read.nd rfl (Or.inl rfl)) pgs_nil)))) (pss_cons (ps_set (i := 9) sc_law_read.nd rfl (Or.inr rfl) (pe_lc (own := [("other", 8)]) (g := gName 8) (tt := tYes) rfl sc_law_read.nd (x_seq K (pe_slice (x_sl K) (pv 2) po_none (po_some (pv 3)))) (blkOk_by (own := [("other", 8)]) (N := N_law_read) (sc := defScope s_law_read) (by decide +kernel)) (fun _ _ _ _ _ => (pg_name (i := 8) sc_law_read.nd rfl (Or.inl rfl))) (fun _ _ _ _ _ => pts_nil) (fun _ _ _ _ _ => (pe_ix (x_ix K) (pv 8) pe_int (fun _ _ => rfl)))))
  (pss_cons (ps_if (pt_cmpR (x_in K (by exact hu65 hr)) (pe_ix (x_ix K) (pv 7) pe_int (fun _ _ => rfl)) (pv 9) (by with_unfolding_all rfl)) (pss_one (ps_ret (pe_tup (pa_cons pe_str (pa_cons (pe_ix (x_ix K) (pv 7) pe_int (fun _ _ => rfl)) pa_nil))))) pss_nil)
  (pss_cons (ps_set (i := 10) sc_law_read.nd rfl (Or.inr rfl) (pe_ix (x_ix K) (pv 7) pe_int (fun _ _ => rfl)))
  (pss_cons (ps_setLc (i := 12) (own := [("k", 11)]) (g := gName 11) rfl sc_law_read.nd rfl rfl (sw_true rfl rfl rfl (by decide +kernel)) (pi_range1 (by rfl) T.b_range (pa_cons (pe_callB (x_len K) (by rfl) T.b_len (by decide +kernel) (pa_cons (pv 10) pa_nil)) pa_nil)) (blkOk_by (own := [("k", 11)]) (N := N_law_read) (sc := defScope s_law_read) (by decide +kernel)) (fun _ _ _ _ _ => (pg_name (i := 11) sc_law_read.nd rfl (Or.inl rfl))) (fun _ _ _ _ _ => (pts_one (PW.pt (pw_or (pt_cmpR (x_notIn K (by exact hu65 hr)) (pe_ix (x_ix K) (pv 10) (pv 11) (fun _ _ => rfl)) (pv 9) (by with_unfolding_all rfl)) (pw_or1 (pt_cmpR (x_in K (by exact hu65 hr)) (pe_ix (x_ix K) (pv 10) (pv 11) (fun _ _ => rfl)) (pe_slice (x_sl K) (pv 10) po_none (po_some (pv 11))) (by with_unfolding_all rfl))))))) (fun _ _ _ _ _ => (pv 11)))
  (pss_one (ps_if (PW.pt (pw_or (pt_cmpR op_gt (pe_callB (x_len K) (by rfl) T.b_len (by decide +kernel) (pa_cons (pv 10) pa_nil)) pe_int (nomark _)) (pw_or1 (pt_cmpR op_gt (pe_callB (x_len K) (by rfl) T.b_len (by decide +kernel) (pa_cons (pv 12) pa_nil)) pe_int (nomark _))))) (pss_one (ps_ret (pe_tup (pa_cons pe_str (pa_cons (pe_ix (x_ix K) (pv 7) pe_int (fun _ _ => rfl)) pa_nil))))) pss_nil)))))))
  (pss_one (ps_ret (pe_tup (pa_cons pe_str (pa_cons (pv 2) pa_nil))))))))), ?_⟩
    show WS _ _ [.val (.str text), .un, .un, .un, .un, .un, .un, .un, .un, .un, .un, .un, .un] n _
    refine ws_cut (fun n1 ρ1 => n1 = n ∧ ρ1 = [.val (.str text), .val (.lst (rows.map .str)), .un, .un, .un, .un, .un, .un, .un, .un, .un, .un, .un]) ?_ ?_
    · refine ws_set (we_if ?_)
      walk_at "go"
      refine r2_neD (okT_fit ht) (by decide +kernel) ?_
      rw [text_empty ht]
      refine ⟨_, rfl, ?_⟩
      by_cases h0 : text = ""
      · rw [decide_eq_true h0]
        refine itF rfl ?_
        walk_at "go"
        rw [hr0 h0]
        exact ⟨Nat.zero_le _, rfl, rfl⟩
      · rw [decide_eq_false h0]
        refine itT rfl ?_
        refine we_split ?_
        walk_at "we1"
        refine ⟨_, rfl, ?_, ?_⟩
        · have := ht.2
          rw [sizeLine_eq]; omega
        walk_at "we1"
        refine ⟨_, rfl, rfl, rfl, ?_⟩
        rw [nl_is, ← hr1 h0]; rfl
    rintro n1 ρ1 ⟨rfl, rfl⟩
    walk_at "ws1"
    refine ws_own (i := 2) (Nat.le_of_ble_eq_true rfl) (wf_lst (wa_nil ⟨Nat.zero_le _, ?_⟩))
    refine ws_cut2 (Nx := fun n2 ρ1 => n2 = n1 ∧ badRow 0 rows = none ∧ ∃ x3 x4 x5 x6, ρ1 = [.val (.str text), .val (.lst (rows.map .str)), .own ((evsOf rows).map evL), x3, x4, x5, x6, .un, .un, .un, .un, .un, .un]) ?_ ?_
    · refine ws_for ?_
      walk_at "go"
      refine ⟨fun i m ρ => m = n1 ∧ badRow 0 rows = badRow i (rows.drop i) ∧ ∃ x3 x4 x5 x6, ρ = [.val (.str text), .val (.lst (rows.map .str)), .own ((evsOf (rows.take i)).map evL), x3, x4, x5, x6, .un, .un, .un, .un, .un, .un], ⟨rfl, rfl, _, _, _, _, rfl⟩, ?_, ?_⟩
      · rintro i m ρ1 d hd ⟨rfl, hB, x3, x4, x5, x6, rfl⟩
        obtain ⟨d1, hd1, rfl⟩ := enumD_get hd
        obtain ⟨r, hx1, rfl, hm, tk⟩ := map_at hd1
        have hz : (0 : Int) + (i : Nat) = (i : Nat) := by omega
        rw [hz]
        rw [drop_at hx1] at hB
        have hrow := hok r hm
        have hwo : ∀ x ∈ Txt.split r (sep 32), okT x := fun x hx => split_ok (by decide) hrow hx
        have hle : (Txt.split r (sep 32)).length ≤ 1001 := by
          rw [split_len (by decide)]
          have h1 := List.count_le_length (a := 32) (l := tl r)
          have h2 := hrow.2
          rw [len_tl] at h2
          omega
        have hl : (evsOf (rows.take i)).length ≤ 12 := Nat.le_trans (evs_len _) (by rw [List.length_take]; omega)
        walk_at "go"
        walk_at "ws1"
        refine ws_set (we_split ?_)
        walk_at "we1"
        refine ⟨_, rfl, ?_, ?_⟩
        · have := hrow.2
          rw [sizeLine_eq]; omega
        walk_at "we1"
        refine ⟨_, rfl, rfl, ?_⟩
        rw [sp_is]
        have hpe : parseR r = parseW (Txt.split r (sep 32)) := rfl
        generalize Txt.split r (sep 32) = ws at hpe hwo hle ⊢
        have bad : parseW ws = none → Φ m (.tup [.str "row", .int (i : Int)]) := fun q => by
          rw [badRow_stop (hpe.trans q)] at hB
          rw [readD_bad hB] at kk
          exact kk
        walk_at "ws1"
        refine ws_if ?_
        walk_at "go"
        rw [List.length_map]
        refine dec2 (fun h1 => ?_) (fun h1 => ?_)
        · refine itT rfl ?_
          walk_at "ws1"
          walk_at "go"
          exact ⟨Nat.le_of_ble_eq_true rfl, bad (parse_short (by omega))⟩
        obtain ⟨k, nm, d, rest, rfl⟩ := three_more (ws := ws) (by omega)
        have fk : fit (.lst (kinds2.map .str)) = true := by decide +kernel
        have fd' : fit (.lst (digs.map .str)) = true := by decide +kernel
        have no : ¬ (k ∈ kinds2 ∧ d ∈ digs ∧ (nm :: rest).all isName = true) → Φ m (.tup [.str "row", .int (i : Int)]) := fun q => bad (if_neg q)
        walk_at "go"
        refine r2_ix (ixD_nat (j := 0) rfl) ?_
        walk_at "go"
        refine ⟨Nat.le_of_ble_eq_true rfl, ?_⟩
        refine r2_notIn (ds := kinds2.map .str) rfl (okT_fit (hwo k (by simp))) fk ?_
        rw [inD_str]
        by_cases h2 : k ∈ kinds2
        case neg =>
          rw [decide_eq_false h2]
          refine ⟨_, rfl, itT rfl (itT rfl ?_)⟩
          walk_at "ws1"
          walk_at "go"
          exact ⟨Nat.le_of_ble_eq_true rfl, no fun q => h2 q.1⟩
        rw [decide_eq_true h2]
        refine ⟨_, rfl, itF rfl ?_⟩
        walk_at "go"
        refine r2_ix (ixD_nat (j := 2) rfl) ?_
        walk_at "go"
        refine ⟨Nat.le_of_ble_eq_true rfl, ?_⟩
        refine r2_notIn (ds := digs.map .str) rfl (okT_fit (hwo d (by simp))) fd' ?_
        rw [inD_str]
        by_cases h3 : d ∈ digs
        case neg =>
          rw [decide_eq_false h3]
          refine ⟨_, rfl, itT rfl ?_⟩
          walk_at "ws1"
          walk_at "go"
          exact ⟨Nat.le_of_ble_eq_true rfl, no fun q => h3 q.2.1⟩
        rw [decide_eq_true h3]
        refine ⟨_, rfl, itF rfl ?_⟩
        have hl3 : ((k :: nm :: d :: rest).map D.str).length = 3 + rest.length := by rw [List.length_map]; simp; omega
        have hc2 : cutD ((k :: nm :: d :: rest).map D.str) (some 3) none = rest.map .str := cut_from _ 3 (by rw [hl3]; omega)
        have hlr : rest.length ≤ 1000 := by simp at hle; omega
        walk_at "ws1"
        walk_at "ws1"
        walk_at "ws1"
        walk_at "go"
        refine r2_ix (ixD_nat (j := 1) rfl) ?_
        walk_at "go"
        refine ⟨hwo nm (by simp), ?_⟩
        refine ⟨_, rfl, ?_⟩
        cases h4 : isName nm with
        | false =>
          refine itT rfl (itT rfl ?_)
          walk_at "ws1"
          walk_at "go"
          exact ⟨Nat.le_of_ble_eq_true rfl, no fun q => by
            have z := q.2.2
            rw [List.all_cons, h4] at z
            cases z⟩
        | true =>
        refine itF rfl ?_
        walk_at "go"
        refine wf_we (wf_map id notNm (wi_seq (we_sl ?_)))
        walk_at "go"
        rw [hc2]
        refine ⟨by rw [List.length_map]; omega, fun z hz m => ?_, ?_⟩
        · obtain ⟨x, hx, rfl⟩ := List.mem_map.mp hz
          have ox : okT x := hwo x (by simp [hx])
          walk_at "go"
          refine ⟨ox, ?_⟩
          refine ⟨_, rfl, rfl, rfl, fun _ => ?_⟩
          walk_at "go"
          exact ⟨rfl, rfl⟩
        walk_at "go"
        have e1 : decide ((0 : Int) < ((((rest.map D.str).filter notNm).map id).length : Int)) = !rest.all isName := by
          rw [List.length_map, List.filter_map, List.length_map]
          cases h : rest.all isName with
          | true =>
            have e3 : rest.filter (notNm ∘ D.str) = [] := List.filter_eq_nil_iff.mpr fun u hu => by
              show ¬ (!isName u) = true
              rw [List.all_eq_true.mp h u hu]; decide
            rw [e3]; rfl
          | false =>
            obtain ⟨u, hu, q⟩ := List.all_eq_false.mp h
            have hm : u ∈ rest.filter (notNm ∘ D.str) := List.mem_filter.mpr ⟨hu, by show (!isName u) = true; simpa using q⟩
            have := List.length_pos_of_mem hm
            exact decide_eq_true (by omega)
        rw [e1]
        cases h5 : rest.all isName with
        | false =>
          refine itT rfl ?_
          walk_at "ws1"
          walk_at "go"
          exact ⟨Nat.le_of_ble_eq_true rfl, no fun q => by
            have z := q.2.2
            rw [List.all_cons, h5, Bool.and_false] at z
            cases z⟩
        | true =>
        refine itF rfl ?_
        have hp : parseR r = some ⟨nm, digV d, k, rest⟩ := hpe.trans (if_pos ⟨h2, h3, by rw [List.all_cons, h4, h5]; rfl⟩)
        rw [badRow_step hp] at hB
        walk_at "ws1"
        refine ws_append (i := 2) (ds := (evsOf (rows.take i)).map evL) rfl ?_
        walk_at "go"
        refine r2_ix (ixD_nat (j := 1) rfl) ?_
        walk_at "go"
        refine r2_ix (ixD_nat (j := 2) rfl) ?_
        refine wa_nil (rc_intS (dig_int h3).1 (dig_int h3).2.1 ?_)
        walk_at "go"
        refine r2_ix (ixD_nat (j := 0) rfl) ?_
        walk_at "go"
        rw [hc2]
        walk_at "go"
        refine ⟨Nat.le_of_ble_eq_true rfl, by rw [List.length_map, sizeLine_eq]; omega, rfl, hB, .val (.int i), .val (.str r), .val (.lst ((k :: nm :: d :: rest).map .str)), x6, ?_⟩
        rw [tk, evs_snoc hp, List.map_append]
        rfl
      · rintro m ρ1 ⟨rfl, hB, x3, x4, x5, x6, rfl⟩
        rw [enumD_len, List.length_map, List.drop_length] at hB
        rw [enumD_len, List.length_map, List.take_length]
        exact ⟨rfl, hB, x3, x4, x5, x6, rfl⟩
    rintro n2 ρ2 ⟨rfl, hB, x3, x4, x5, x6, rfl⟩
    have hw := evs_well hok
    have hl : (evsOf rows).length ≤ 12 := Nat.le_trans (evs_len _) h12
    have fin : firstF [] (evsOf rows) = none → Φ n2 (.tup [.str "events", .lst ((evsOf rows).map evL)]) := fun q => by rw [readD_ok hB q] at kk; exact kk
    have flt : ∀ w x, firstF [] (evsOf rows) = some (w, x) → Φ n2 (.tup [.str w, .str x]) := fun w x q => by rw [readD_no hB q] at kk; exact kk
    generalize evsOf rows = es at hw hl fin flt
    refine ws_freeze 2 rfl ?_
    walk_at "ws1"
    refine ws_for ?_
    walk_at "go"
    refine ⟨fun i m ρ => m = n2 ∧ firstF [] es = firstF ((es.take i).map Toy.Ev.nm) (es.drop i) ∧ ∃ x3 x7 x8 x9 x10 x11 x12, ρ = [.val (.str text), .val (.lst (rows.map .str)), .val (.lst (es.map evL)), x3, x4, x5, x6, x7, x8, x9, x10, x11, x12], ⟨rfl, rfl, _, _, _, _, _, _, _, rfl⟩, ?_, ?_⟩
    · rintro i m ρ1 d hd ⟨rfl, hF, x3, x7, x8, x9, x10, x11, x12, rfl⟩
      obtain ⟨d1, hd1, rfl⟩ := enumD_get hd
      obtain ⟨e, hee, rfl, hm, tk⟩ := map_at hd1
      have hz : (0 : Int) + (i : Nat) = (i : Nat) := by omega
      rw [hz]
      have hi : i < es.length := (List.getElem?_eq_some_iff.mp hee).1
      have we := hw e hm
      rw [drop_at hee] at hF
      have hf : ∀ x ∈ (es.take i).map Toy.Ev.nm, okT x := fun x hx => by
        obtain ⟨e', he', rfl⟩ := List.mem_map.mp hx
        exact (hw e' (List.mem_of_mem_take he')).tn
      walk_at "go"
      refine ws_cut (fun n3 ρ1 => n3 = m ∧ ∃ x8, ρ1 = [.val (.str text), .val (.lst (rows.map .str)), .val (.lst (es.map evL)), .val (.int (i : Int)), x4, x5, x6, .val (evL e), x8, .val (.lst (((es.take i).map Toy.Ev.nm).map .str)), x10, x11, x12]) ?_ ?_
      · refine ws_set (wf_we (wf_map headD' (fun _ => true) (wi_seq (we_sl ?_))))
        walk_at "go"
        rw [cut_to (by rw [List.length_map]; omega), ← List.map_take]
        refine ⟨by rw [List.length_map, List.length_take]; omega, fun d hd m2 => ?_, ?_⟩
        · obtain ⟨x, hx, rfl⟩ := List.mem_map.mp hd
          walk_at "go"
          refine ⟨rfl, rfl, fun _ => ?_⟩
          walk_at "go"
          exact ⟨rfl, rfl⟩
        rw [filt_all, heads_is]
        exact ⟨rfl, x8, rfl⟩
      rintro n3 ρ3 ⟨rfl, x8, rfl⟩
      walk_at "ws1"
      refine ws_if ?_
      walk_at "go"
      walk_at "go"
      refine r2_in rfl (okT_fit we.tn) (fit_okT hf) ?_
      rw [inD_str]
      refine ⟨_, rfl, dec2 (fun h1 => ?_) (fun h1 => ?_)⟩
      · have hfa : faultOf ((es.take i).map Toy.Ev.nm) e = some "twice" := if_pos h1
        rw [firstF_yes hfa] at hF
        walk_at "ws1"
        walk_at "go"
        exact ⟨Nat.le_of_ble_eq_true rfl, flt _ _ hF⟩
      walk_at "ws1"
      walk_at "ws1"
      walk_at "ws1"
      walk_at "go"
      generalize hel : (es.take i).map Toy.Ev.nm = el at hF h1 hf ⊢
      refine ws_cut (fun n4 ρ1 => n4 = n3 ∧ ∃ x11, ρ1 = [.val (.str text), .val (.lst (rows.map .str)), .val (.lst (es.map evL)), .val (.int (i : Int)), x4, x5, x6, .val (evL e), x8, .val (.lst (el.map .str)), .val (.lst (e.needs.map .str)), x11, .val (.lst ((rangeD 0 e.needs.length).filter (badD el e.needs)))]) ?_ ?_
      · refine ws_set (wf_we (wf_map id (badD el e.needs) ?_))
        walk_at "go"
        rw [List.length_map]
        have lne := we.le
        refine ⟨by omega, by omega, ?_⟩
        have hcn : ((e.needs.length : Nat) : Int).toNat = e.needs.length := by omega
        rw [hcn]
        refine ⟨by rw [rangeD_len]; omega, fun d hd m2 => ?_, ?_⟩
        · obtain ⟨j, hj⟩ := List.getElem?_of_mem hd
          obtain ⟨hj1, rfl⟩ := rangeD_get hj
          have e0 : (0 : Int) + (j : Int) = (j : Int) := by omega
          rw [e0]
          have hx : e.needs[j]? = some e.needs[j] := List.getElem?_eq_getElem hj1
          have hxm : e.needs[j] ∈ e.needs := List.getElem_mem hj1
          generalize e.needs[j] = x at hx hxm
          have hb : badD el e.needs (.int (j : Int)) = (!decide (x ∈ el) || decide (x ∈ e.needs.take j)) := by
            show badAt el e.needs (j : Int).toNat = _
            rw [show (j : Int).toNat = j by omega]
            unfold badAt; rw [hx]
          rw [hb]
          walk_at "go"
          refine r2_ix (f := .str x) (ixD_nat (by rw [List.getElem?_map, hx]; rfl)) ?_
          walk_at "go"
          refine r2_notIn rfl (okT_fit (we.ts x hxm)) (fit_okT hf) ?_
          rw [inD_str]
          by_cases h3 : x ∈ el
          · rw [decide_eq_true h3]
            refine ⟨_, rfl, itF rfl ?_⟩
            walk_at "go"
            refine r2_ix (f := .str x) (ixD_nat (by rw [List.getElem?_map, hx]; rfl)) ?_
            walk_at "go"
            rw [cut_to (by rw [List.length_map]; omega), ← List.map_take]
            refine r2_in rfl (okT_fit (we.ts x hxm)) (fit_okT fun y hy => we.ts y (List.mem_of_mem_take hy)) ?_
            rw [inD_str]
            refine ⟨_, rfl, rfl, by rfl, fun _ => ?_⟩
            walk_at "go"
            exact ⟨rfl, rfl⟩
          · rw [decide_eq_false h3]
            refine ⟨_, rfl, itT rfl ⟨rfl, by rfl, fun _ => ?_⟩⟩
            walk_at "go"
            exact ⟨rfl, rfl⟩
        · rw [List.map_id]
          exact ⟨rfl, _, rfl⟩
      rintro n4 ρ4 ⟨rfl, x11, rfl⟩
      have any := badD_len el e.needs
      walk_at "ws1"
      walk_at "go"
      rw [List.length_map]
      have yes : 3 < e.needs.length ∨ anyBad el e.needs = true → Φ n4 (.tup [.str "needs", .str e.nm]) := fun q => by
        have hfa : faultOf el e = some "needs" := (if_neg h1).trans (if_pos q)
        rw [firstF_yes hfa] at hF
        exact flt _ _ hF
      refine dec2 (fun h2 => ?_) (fun h2 => ?_)
      · refine itT rfl ?_
        walk_at "ws1"
        walk_at "go"
        exact ⟨Nat.le_of_ble_eq_true rfl, yes (.inl (by omega))⟩
      walk_at "go"
      refine dec2 (fun h3 => ?_) (fun h3 => ?_)
      · walk_at "ws1"
        walk_at "go"
        refine ⟨Nat.le_of_ble_eq_true rfl, yes (.inr ?_)⟩
        cases q : anyBad el e.needs with
        | true => rfl
        | false =>
          have := any.mpr q
          omega
      · walk_at "ws1"
        have hfa : faultOf el e = none := (if_neg h1).trans (if_neg fun q => q.elim (fun z => by omega) fun z => by
          have w0 : ((rangeD 0 e.needs.length).filter (badD el e.needs)).length = 0 := by omega
          rw [any.mp w0] at z
          cases z)
        rw [firstF_no hfa] at hF
        refine ⟨rfl, ?_, .val (.int (i : Int)), .val (evL e), x8, .val (.lst (el.map .str)), .val (.lst (e.needs.map .str)), x11, _, rfl⟩
        rw [hF, tk, List.map_append, hel]; rfl
    · rintro m ρ1 ⟨rfl, hF, x3, x7, x8, x9, x10, x11, x12, rfl⟩
      rw [enumD_len, List.length_map, List.drop_length] at hF
      walk_at "ws1"
      walk_at "go"
      exact ⟨Nat.le_of_ble_eq_true rfl, fin hF⟩

end
end Toy
namespace L3
theorem exm_no {K : PySem.W.Frag} {S T : PySem.Addr} (h1 : PySem.W.subIn K (.ref T) (.type "BaseException") = some true) (h2 : PySem.W.isClsIn K T = true) (h3 : PySem.W.typeIn K (.ref T) = some (.type "type")) (h4 : PySem.W.subIn K (.ref S) (.ref T) = some false) : PySem.W.exmOne K (.ref S) (.ref T) = some false := by
  have e1 : (PySem.W.subIn K (.ref T) (.type "BaseException") == some true) = true := by rw [h1] <;> rfl
  have e2 : ((PySem.W.clsIn K T).isSome && PySem.W.typeIn K (.ref T) == some (.type "type")) = true := by
    have h2' : (PySem.W.clsIn K T).isSome = true := h2
    rw [h2', h3] <;> rfl
  show (if (PySem.W.subIn K (.ref T) (.type "BaseException") == some true) = true then (if ((PySem.W.clsIn K T).isSome && PySem.W.typeIn K (.ref T) == some (.type "type")) = true then PySem.W.subIn K (.ref S) (.ref T) else none) else none) = some false
  rw [if_pos e1, if_pos e2]
  exact h4
end L3
namespace Toy
open PySem L2 L3 TL
local macro_rules | `(tactic| walk_at "we1") => `(tactic| first
  | ((with_reducible refine' we_var ?hv ?_); (case hv => rfl))
  | (with_reducible refine we_int ?_)
  | (with_reducible refine we_str ?_)
  | (with_reducible refine we_bl ?_)
  | (with_reducible refine we_non ?_)
  | ((with_reducible refine' we_dix ?hv ?_); (case hv => rfl))
  | (with_reducible refine we_op ?_)
  | ((with_reducible refine' we_dget ?hv ?_); (case hv => rfl))
  | (with_reducible refine we_count ?_)
  | (with_reducible refine we_cb ?_)
  | (with_reducible refine we_call0 ?_)
  | (with_reducible refine we_tup ?_)
  | (with_reducible refine we_lst ?_)
  | (with_reducible refine we_if ?_)
  | (with_reducible refine we_not ?_)
  | (with_reducible refine we_and ?_)
  | (with_reducible refine we_or ?_)
  | (with_reducible refine we_isN ?_)
  | (with_reducible refine we_notN ?_)
  | (with_reducible refine we_sl ?_)
  | (with_reducible refine wa_cons ?_)
  | (with_reducible refine wa_nil ?_)
  | (with_reducible refine wt_test ?_)
  | (with_reducible refine wt_B ?_)
  | (with_reducible refine wt_and ?_)
  | (with_reducible refine wt_or ?_)
  | (with_reducible refine wt_not ?_)
  | (with_reducible refine wt_yes ?_)
  | (with_reducible refine wo_none ?_)
  | (with_reducible refine wo_some ?_)
  | ((with_reducible refine' r2_ix ?hx ?_); (case hx => rfl))
  | (with_reducible refine r2_isN ?_)
  | (with_reducible refine r2_notN ?_)
  | (with_reducible refine r2_lt ?_)
  | (with_reducible refine r2_le ?_)
  | (with_reducible refine r2_gt ?_)
  | (with_reducible refine r2_ge ?_)
  | (with_reducible refine r2_sub ?_)
  | (with_reducible refine r2_addI ?_)
  | (with_reducible refine r2_eqI ?_)
  | (with_reducible refine r2_neI ?_)
  | (with_reducible refine rc_int ?_)
  | (with_reducible refine rc_abs ?_)
  | ((with_reducible refine' rc_len ?hl ?_); (case hl => rfl))
  | (with_reducible refine wi_seq ?_)
  | (with_reducible refine wi_rng1 ?_)
  | (with_reducible refine wi_rng2 ?_)
  | (with_reducible refine wi_enum ?_)
  | (refine ⟨_, rfl, ?_⟩))
local macro_rules | `(tactic| walk_at "ws1") => `(tactic| first
  | (with_reducible refine ws_seq ?_)
  | (with_reducible refine ws_set ?_)
  | (with_reducible refine ws_ret ?_)
  | (with_reducible refine ws_if ?_)
  | (with_reducible refine ws_next ?_)
  | (with_reducible refine ws_asg ?_))
local macro_rules | `(tactic| walk_at "wg1") => `(tactic| first
  | (with_reducible refine wg_name (rw_name (by decide)) ?_)
  | (with_reducible refine wg_name (fun _ _ => trivial) ?_)
  | ((with_reducible refine' wg_tup ?hl ?_); (case hl => rfl))
  | (with_reducible refine wgs_cons rw_trans ?_)
  | (with_reducible refine wgs_nil rw_refl ?_)
  | (with_reducible refine wgs_cons (fun _ _ _ _ _ => trivial) ?_)
  | (with_reducible refine wgs_nil (fun _ => trivial) ?_))
local macro_rules | `(tactic| walk_at "go") => `(tactic| repeat' (first | walk_at "we1" | walk_at "wg1"))
section
variable {P : Program} {w : World} {K : PySem.W.Frag} {mg : Str → Option Value} {base : Heap}
def evOfL (C : Addr) : D → D
  | .tup [.str a, .int b, .str c, .lst ds] => evD C ⟨a, b, c, ds.map unS⟩
  | _ => .non
theorem evOfL_is (C : Addr) (e : Toy.Ev) : evOfL C (evL e) = evD C e := by
  show evD C ⟨e.nm, e.at_, e.kind, (e.needs.map .str).map unS⟩ = _
  rw [un_strs]
def spMadeO (CO CE : Addr) : L3.Spec := fun bag n ds Φ => ∃ es : List Toy.Ev, ds = [.lst (es.map evL)] ∧ es.length ≤ 12 ∧ (∀ e ∈ es, Well e) ∧ firstF [] es = none ∧ Φ n (ordD CO CE es)
abbrev s_law_made : Stmt := top 31
abbrev N_law_made : List Str := ["events", "name", "end", "kind", "needs"]
theorem sc_law_made : FnScope N_law_made ["events"] (defScope s_law_made) := ⟨rfl, rfl, rfl, by decide +kernel, rfl, by decide +kernel, by decide +kernel⟩

theorem ok_madeO {f CO CB : Addr} {fd : FuncData} (F : Fun K "_law_made" "_law_made" s_law_made f fd) (T : Txt mg) (M_Event : Mn P w K mg base "Event" 1 ["self", "name", "end", "kind", "needs"] [] [] spEvR) (R_Order : Mnx P w K mg base CO "Order" 3 ["self", "events"] [] [] (spOrderX CB M_Event.C)) : FnOk P w K mg base CX0 5 f fd ["events"] (spD K (spMadeO CO M_Event.C)) := by
  refine fn_D F sc_law_made (fun bag n ds Φ h => ?_) (fun cdv A outer s H Ex O bag n ds Φ hr h => ?_)
  · obtain ⟨es, e, _⟩ := h
    rw [e]; rfl
  · obtain ⟨es, e, h12, hw, hF, kk⟩ := h
    subst e
    refine ⟨_, (pss_one (ps_ret (pe_make R_Order.M R_Order.G (hr.mono (by decide)) (by rfl) R_Order.m R_Order.b R_Order.v (passes_call takes0 (fun _ _ _ _ h => h)) (pa_cons (pe_lc (own := [("name", 1), ("end", 2), ("kind", 3), ("needs", 4)]) (g := gTup K 4 (gCons (gName 1) (gCons (gName 2) (gCons (gName 3) (gCons (gName 4) gNil))))) (tt := tYes) rfl sc_law_made.nd (x_seq K (pv 0)) (blkOk_by (own := [("name", 1), ("end", 2), ("kind", 3), ("needs", 4)]) (N := N_law_made) (sc := defScope s_law_made) (by decide +kernel)) (fun _ _ _ _ _ => (x_tgt K (pg_tup (by rfl) (pgs_cons (pg_name (i := 1) sc_law_made.nd rfl (Or.inl rfl)) (pgs_cons (pg_name (i := 2) sc_law_made.nd rfl (Or.inl rfl)) (pgs_cons (pg_name (i := 3) sc_law_made.nd rfl (Or.inl rfl)) (pgs_cons (pg_name (i := 4) sc_law_made.nd rfl (Or.inl rfl)) pgs_nil))))))) (fun _ _ _ _ _ => pts_nil) (fun _ _ _ _ _ => (pe_make M_Event.M M_Event.G (hr.mono (by decide)) (by rfl) M_Event.m M_Event.b M_Event.v pass0 (pa_cons (pv 1) (pa_cons (pv 2) (pa_cons (pv 3) (pa_cons (pv 4) pa_nil))))))) pa_nil)))), ?_⟩
    show WS _ _ [.val (.lst (es.map evL)), .un, .un, .un, .un] n _
    walk_at "ws1"
    refine we_makeX (Ξ := fun _ _ _ _ => False) xa_false (dds := []) (fun _ => .nil) ?_
    refine wa_cons (wf_we (wf_map (evOfL M_Event.C) (fun _ => true) ?_))
    walk_at "we1"
    walk_at "we1"
    refine ⟨_, rfl, by rw [List.length_map]; omega, fun d hd m => ?_, ?_⟩
    · obtain ⟨e, _, rfl⟩ := List.mem_map.mp hd
      walk_at "go"
      refine ⟨rfl, rfl, fun _ => ?_⟩
      refine we_make (dds := []) (fun _ => .nil) ?_
      walk_at "go"
      exact ⟨true, e, rfl, rfl, (evOfL_is _ e).symm⟩
    rw [filt_all, List.map_map]
    have e1 : es.map (evOfL M_Event.C ∘ evL) = es.map (evD M_Event.C) := List.map_congr_left fun e _ => evOfL_is _ e
    rw [e1]
    exact wa_nil ⟨true, es, rfl, h12, hw, fun _ => kk, fun w x q => by rw [hF] at q; cases q⟩
/-! a text of so many turns -/
structure Tx (m : Nat) (z : Str) : Prop where
  asc : ∀ u ∈ tl z, u < 128
  len : z.length ≤ 500 + m
  nl : (tl z).count 10 ≤ 7 + m
theorem Tx.ok {m : Nat} {z : Str} (h : Tx m z) (hm : m ≤ 4) : okT z := ⟨h.asc, by have := h.len; omega⟩
theorem Tx.rows {m : Nat} {z : Str} (h : Tx m z) (hm : m ≤ 4) : (rowsOf z).length ≤ 12 := by
  unfold rowsOf
  split
  · exact Nat.zero_le _
  · rw [split_len (by decide)]
    have := h.nl
    omega
def spSpoil : L3.Spec := fun bag n ds Φ => ∃ (b q : Addr) (m : Nat) (z : Str), bag = some (b, q) ∧ ds = [.adr b, .str z] ∧ Tx m z ∧ m ≤ 2 ∧ n + 10 < 2 ^ 60 ∧ ∀ z' n', Tx (m + 1) z' → n' ≤ n + 3 → Φ n' (.str z')
def sgB (x : Str) : Bool := (tl x).all (fun u => decide (u < 128)) && decide (x.length ≤ 1)
theorem sg_at {r : Int} (h0 : 0 ≤ r) (h1 : r < 12) : ∃ x, ixD (.lst [.str "a", .str "z", .str "0", .str "5", .str "6", .str " ", .str "\n", .str "A", .str "-", .str "_", .str "", .str "q"]) r = some (.str x) ∧ sgB x = true := by
  obtain rfl | rfl | rfl | rfl | rfl | rfl | rfl | rfl | rfl | rfl | rfl | rfl : r = 0 ∨ r = 1 ∨ r = 2 ∨ r = 3 ∨ r = 4 ∨ r = 5 ∨ r = 6 ∨ r = 7 ∨ r = 8 ∨ r = 9 ∨ r = 10 ∨ r = 11 := by omega
  all_goals exact ⟨_, rfl, by decide +kernel⟩
theorem cutS_to (z : Str) (k : Nat) (h : k ≤ z.length) : tl (cutS z none (some (k : Int))) = (tl z).take k := by
  unfold cutS
  rw [HT.sIx_none, HT.sIx_nat, Nat.min_eq_left h]
  show ((tl z).drop 0).take (k - 0) = _
  rw [List.drop_zero, Nat.sub_zero]
theorem cutS_from (z : Str) (k : Nat) : tl (cutS z (some (k : Int)) none) = (tl z).drop k := by
  unfold cutS
  rw [HT.sIx_none, HT.sIx_nat]
  show ((tl z).drop (min k z.length)).take (z.length - min k z.length) = _
  rw [len_tl]
  by_cases h : k ≤ (tl z).length
  · rw [Nat.min_eq_left h, List.take_of_length_le (by rw [List.length_drop]; omega)]
  · rw [Nat.min_eq_right (by omega), List.drop_of_length_le (Nat.le_refl _), List.drop_of_length_le (by omega), List.take_nil]
theorem spoil_tx {m : Nat} {z x a b : Str} {k j : Nat} (h : Tx m z) (hx : sgB x = true) (ha : tl a = (tl z).take k) (hb : tl b = (tl z).drop (k + j)) : Tx (m + 1) (a ++ x ++ b) := by
  unfold sgB at hx
  simp only [Bool.and_eq_true, decide_eq_true_eq, List.all_eq_true] at hx
  obtain ⟨x1, x2⟩ := hx
  rw [len_tl] at x2
  have e : tl (a ++ x ++ b) = (tl z).take k ++ tl x ++ (tl z).drop (k + j) := by rw [tl_append, tl_append, ha, hb]
  have sub : ((tl z).take k ++ (tl z).drop (k + j)).Sublist (tl z) := by
    have s1 : ((tl z).drop (k + j)).Sublist ((tl z).drop k) := by rw [← List.drop_drop]; exact List.drop_sublist _ _
    have s2 := (List.Sublist.refl ((tl z).take k)).append s1
    rwa [List.take_append_drop] at s2
  refine ⟨fun u hu => ?_, ?_, ?_⟩
  · rw [e] at hu
    rcases List.mem_append.mp hu with q | q
    · rcases List.mem_append.mp q with q | q
      · exact h.asc u (List.mem_of_mem_take q)
      · exact x1 u q
    · exact h.asc u (List.mem_of_mem_drop q)
  · have h1 := h.len
    have h2 := sub.length_le
    rw [len_tl] at h1 ⊢
    rw [e]
    rw [List.length_append] at h2
    rw [List.length_append, List.length_append]
    omega
  · have h1 := h.nl
    have h2 := sub.count_le 10
    have h3 := List.count_le_length (a := 10) (l := tl x)
    rw [e]
    rw [List.count_append] at h2
    rw [List.count_append, List.count_append]
    omega
theorem strlen_le {z : Str} (h : z.length ≤ 1000) : lenD (.str z) = some ((z.length : Nat) : Int) := str_len h
abbrev s_law_spoiled : Stmt := top 30
abbrev N_law_spoiled : List Str := ["bag", "text", "at", "sign"]
theorem sc_law_spoiled : FnScope N_law_spoiled ["bag", "text"] (defScope s_law_spoiled) := ⟨rfl, rfl, rfl, by decide +kernel, rfl, by decide +kernel, by decide +kernel⟩

theorem ok_spoil {f : Addr} {fd : FuncData} (F : Fun K "_law_spoiled" "_law_spoiled" s_law_spoiled f fd) (T : Txt mg) (D_law_draw : Dn P w K mg base "_law_draw" 1 ["bag", "limit"] [] [] spDraw) : FnOk P w K mg base CX0 2 f fd ["bag", "text"] (spD K spSpoil) := by
  refine fn_D F sc_law_spoiled (fun bag n ds Φ h => ?_) (fun cdv A outer s H Ex O bag n ds Φ hr h => ?_)
  · obtain ⟨b, q, m, z, _, e, _⟩ := h
    rw [e]; rfl
  · obtain ⟨b, q, m, z, eb, e, ht, hm, hn, kk⟩ := h
    subst eb; subst e
    have hz := ht.len
    refine ⟨_, (pss_cons (ps_set (i := 2) sc_law_spoiled.nd rfl (Or.inl rfl) (pe_call D_law_draw.G (hr.mono (by decide)) (by rfl) D_law_draw.m D_law_draw.k D_law_draw.b D_law_draw.v pass0 (pa_cons (pv 0) (pa_cons (pe_op (x_add K) (pe_callB (x_len K) (by rfl) T.b_len (by decide +kernel) (pa_cons (pv 1) pa_nil)) pe_int) pa_nil))))
  (pss_cons (ps_set (i := 3) sc_law_spoiled.nd rfl (Or.inl rfl) (pe_ix (x_ix K) (pe_lst (pa_cons pe_str (pa_cons pe_str (pa_cons pe_str (pa_cons pe_str (pa_cons pe_str (pa_cons pe_str (pa_cons pe_str (pa_cons pe_str (pa_cons pe_str (pa_cons pe_str (pa_cons pe_str (pa_cons pe_str pa_nil))))))))))))) (pe_call D_law_draw.G (hr.mono (by decide)) (by rfl) D_law_draw.m D_law_draw.k D_law_draw.b D_law_draw.v pass0 (pa_cons (pv 0) (pa_cons pe_int pa_nil))) (fun _ _ => rfl)))
  (pss_one (ps_ret (pe_op (x_add K) (pe_op (x_add K) (pe_slice (x_sl K) (pv 1) po_none (po_some (pv 2))) (pv 3)) (pe_slice (x_sl K) (pv 1) (po_some (pe_op (x_add K) (pv 2) (pe_call D_law_draw.G (hr.mono (by decide)) (by rfl) D_law_draw.m D_law_draw.k D_law_draw.b D_law_draw.v pass0 (pa_cons (pv 0) (pa_cons pe_int pa_nil))))) po_none)))))), ?_⟩
    show WS _ _ [.val (.adr b), .val (.str z), .un, .un] n _
    walk_at "ws1"
    walk_at "ws1"
    walk_at "go"
    refine rc_len (strlen_le (by omega)) ?_
    walk_at "go"
    refine ⟨b, q, _, rfl, rfl, by omega, by omega, by omega, fun r h0 h4 => ?_⟩
    obtain ⟨k, rfl⟩ : ∃ k : Nat, r = (k : Int) := ⟨r.toNat, by omega⟩
    walk_at "ws1"
    walk_at "ws1"
    walk_at "go"
    refine ⟨Nat.le_of_ble_eq_true rfl, ?_⟩
    walk_at "go"
    refine ⟨b, q, 12, rfl, rfl, by decide, by decide, by omega, fun r h0 h5 => ?_⟩
    obtain ⟨x, hx, hsg⟩ := sg_at h0 h5
    refine r2_ix hx ?_
    walk_at "ws1"
    refine we_op (we_op (we_sl ?_))
    walk_at "go"
    have hs1 : slD (.str z) none (some (k : Int)) = some (.str (cutS z none (some (k : Int)))) := if_pos (by rw [sizeLine_eq]; omega)
    refine ⟨_, hs1, ?_⟩
    have hk : k ≤ z.length := by omega
    have l1 : (cutS z none (some (k : Int))).length ≤ 502 := by
      rw [len_tl, cutS_to z k hk, List.length_take, ← len_tl]; omega
    have l2 : x.length ≤ 1 := by
      unfold sgB at hsg
      rw [Bool.and_eq_true] at hsg
      exact of_decide_eq_true hsg.2
    walk_at "go"
    refine r2_catS (by omega) ?_
    walk_at "go"
    refine ⟨b, q, 2, rfl, rfl, by decide, by decide, by omega, fun r h0 h6 => ?_⟩
    obtain ⟨j, rfl⟩ : ∃ j : Nat, r = (j : Int) := ⟨r.toNat, by omega⟩
    walk_at "go"
    have ekj : (k : Int) + (j : Int) = ((k + j : Nat) : Int) := by omega
    rw [ekj]
    have hs2 : slD (.str z) (some ((k + j : Nat) : Int)) none = some (.str (cutS z (some ((k + j : Nat) : Int)) none)) := if_pos (by rw [sizeLine_eq]; omega)
    refine ⟨_, hs2, ?_⟩
    have l3 : (cutS z (some ((k + j : Nat) : Int)) none).length ≤ 502 := by
      rw [len_tl, cutS_from z (k + j), List.length_drop, ← len_tl]; omega
    refine r2_catS (by rw [strlen_append]; omega) ?_
    exact kk _ _ (spoil_tx ht hsg (cutS_to z k hk) (cutS_from z (k + j))) (by omega)
/-! read back -/
theorem row_back {r : Str} {e : Toy.Ev} (h : parseR r = some e) : rowT e = r := by
  have hj := join_split (s := 32) (by decide) r
  unfold parseR at h
  generalize Txt.split r (sep 32) = ws at h hj
  match ws, h with
  | k :: nm :: d :: rest, h =>
    have h' : (if k ∈ kinds2 ∧ d ∈ digs ∧ (nm :: rest).all isName = true then some (⟨nm, digV d, k, rest⟩ : Toy.Ev) else none) = some e := h
    split at h'
    · rename_i q
      cases h'
      show Txt.join (sep 32) ([k, nm, ((toString (digV d) : String) : Str)] ++ rest) = r
      rw [(dig_int q.2.1).2.2.2.2]
      exact hj
    · cases h'
theorem bad_none : ∀ (rows : List Str) (k : Nat), badRow k rows = none → (evsOf rows).map rowT = rows
  | [], _, _ => rfl
  | r :: rs, k, h => by
    cases hp : parseR r with
    | none => rw [badRow_stop hp] at h; cases h
    | some e =>
      rw [badRow_step hp] at h
      have ih := bad_none rs (k + 1) h
      show ((r :: rs).filterMap parseR).map rowT = _
      rw [List.filterMap_cons, hp]
      show rowT e :: (evsOf rs).map rowT = _
      rw [ih, row_back hp]
theorem text_back {text : Str} (h : badRow 0 (rowsOf text) = none) : textT (evsOf (rowsOf text)) = text := by
  have e := bad_none _ 0 h
  unfold textT
  rw [e]
  unfold rowsOf
  by_cases q : text = ""
  · rw [if_pos q, q]; rfl
  · rw [if_neg q]; exact join_split (by decide) text
def spBack : L3.Spec := fun bag n ds Φ => ∃ text : Str, ds = [.str text] ∧ okT text ∧ (rowsOf text).length ≤ 12 ∧ Φ n (.bl true)
theorem fit_two {a b : Str} (ha : okT a) (hb : okT b) : fit (.tup [.str a, .str b]) = true := (fit_list (ds := [.str a, .str b]) fun d hd => by
  simp only [List.mem_cons, List.not_mem_nil, or_false] at hd
  rcases hd with rfl | rfl
  · exact ⟨okT_fit ha, Nat.zero_le _⟩
  · exact ⟨okT_fit hb, Nat.zero_le _⟩).2
theorem fit_ri {a : Str} (ha : okT a) (i : Int) : fit (.tup [.str a, .int i]) = true := (fit_list (ds := [.str a, .int i]) fun d hd => by
  simp only [List.mem_cons, List.not_mem_nil, or_false] at hd
  rcases hd with rfl | rfl
  · exact ⟨okT_fit ha, Nat.zero_le _⟩
  · exact ⟨rfl, Nat.zero_le _⟩).2
theorem okc {z : Str} (h : ((tl z).all (fun u => decide (u < 128)) && decide (z.length ≤ 1000)) = true) : okT z := by
  simp only [Bool.and_eq_true, decide_eq_true_eq, List.all_eq_true] at h
  exact h
theorem fault_ok {el : List Str} {e : Toy.Ev} {w : Str} (h : faultOf el e = some w) : okT w := by
  unfold faultOf at h
  split at h
  · cases h; exact okc (by decide +kernel)
  · split at h
    · cases h; exact okc (by decide +kernel)
    · cases h
theorem first_ok : ∀ (es : List Toy.Ev) (el : List Str) {w x : Str}, (∀ e ∈ es, Well e) → firstF el es = some (w, x) → okT w ∧ okT x
  | [], _, _, _, _, h => by cases h
  | e :: es, el, w, x, hw, h => by
    cases hf : faultOf el e with
    | some w0 =>
      rw [firstF_yes hf] at h
      cases h
      exact ⟨fault_ok hf, (hw e List.mem_cons_self).tn⟩
    | none =>
      rw [firstF_no hf] at h
      exact first_ok es _ (fun y hy => hw y (List.mem_cons_of_mem _ hy)) h
abbrev s_law_back_right : Stmt := top 32
abbrev N_law_back_right : List Str := ["text", "due", "told", "e"]
theorem sc_law_back_right : FnScope N_law_back_right ["text"] (defScope s_law_back_right) := ⟨rfl, rfl, rfl, by decide +kernel, rfl, by decide +kernel, by decide +kernel⟩

theorem ok_back {f CO CE : Addr} {fd : FuncData} (F : Fun K "_law_back_right" "_law_back_right" s_law_back_right f fd) (T : Txt mg) (X_BadText : Xn P w K mg base "BadText" ["row"]) (X_BadOrder : Xn P w K mg base "BadOrder" ["what", "name"]) (E_no : PySem.W.exmOne K (.ref X_BadOrder.C) (.ref X_BadText.C) = some false) (O_Order : On P w K mg base CO 3 ["self", "other"] (spEqO CO CE))
    (D_law_read : Dn P w K mg base "_law_read" 2 ["text"] [] [] spRead) (D_law_made : Dn P w K mg base "_law_made" 5 ["events"] [] [] (spMadeO CO CE)) (D_order_text : Dn P w K mg base "order_text" 2 ["order"] [] [] (spText CO CE)) (R_parse_order : Dx P w K mg base "parse_order" 5 ["text"] (spParseO X_BadText.C X_BadOrder.C CO CE)) : FnOk P w K mg base CX0 6 f fd ["text"] (spD K spBack) := by
  refine fn_D F sc_law_back_right (fun bag n ds Φ h => ?_) (fun cdv A outer s H Ex O bag n ds Φ hr h => ?_)
  · obtain ⟨z, e, _⟩ := h
    rw [e]; rfl
  · obtain ⟨text, e, ht, h12, kk⟩ := h
    subst e
    have hok := rows_ok ht
    have hw := evs_well hok
    have hback := @text_back text
    refine ⟨_, (pss_cons (ps_set (i := 1) sc_law_back_right.nd rfl (Or.inl rfl) (pe_call D_law_read.G (hr.mono (by decide)) (by rfl) D_law_read.m D_law_read.k D_law_read.b D_law_read.v pass0 (pa_cons (pv 0) pa_nil)))
  (pss_cons (ps_tryN rfl rfl sc_law_back_right.nd takes0
 (fun W pn xe tk po => (pss_one (ps_set (i := 2) sc_law_back_right.nd rfl (Or.inl rfl) (pe_callSD R_parse_order.G (hr.mono (by decide)) (by rfl) R_parse_order.m R_parse_order.k R_parse_order.b .nil (fun σ => passAt tk σ) (pa_cons (pv 0) pa_nil)))))
 (.cons (i := 3) rfl rfl ⟨rfl, by decide, Or.inl X_BadText.m⟩ (fun a oe cls d pn hz hf => (pss_one (ps_ret (pe_cmpR (x_eq K (by exact hr.units)) (pv 1) (pe_tup (pa_cons pe_str (pa_cons (pe_xf X_BadText.xf (X_BadText.no _ (by decide)) hz hf (pv 3)) pa_nil))) (nomark _))))) (.cons (i := 3) rfl rfl ⟨rfl, by decide, Or.inl X_BadOrder.m⟩ (fun a oe cls d pn hz hf => (pss_one (ps_ret (pe_cmpR (x_eq K (by exact hr.units)) (pv 1) (pe_tup (pa_cons (pe_xf X_BadOrder.xf (X_BadOrder.no _ (by decide)) hz hf (pv 3)) (pa_cons (pe_xf X_BadOrder.xf (X_BadOrder.no _ (by decide)) hz hf (pv 3)) pa_nil))) (nomark _))))) .nil)))
  (pss_one (ps_ret (pe_and (pe_cmpR (x_eq K (by exact hr.units)) (pe_ix (x_ix K) (pv 1) pe_int (fun _ _ => rfl)) pe_str (nomark _)) (pe_and (pe_cmpR (op_ownEq O_Order.G O_Order.T (hr.mono (by decide)) O_Order.b pass0) (pv 2) (pe_call D_law_made.G (hr.mono (by decide)) (by rfl) D_law_made.m D_law_made.k D_law_made.b D_law_made.v pass0 (pa_cons (pe_ix (x_ix K) (pv 1) pe_int (fun _ _ => rfl)) pa_nil)) (nomark _)) (pe_one (pe_cmpR (x_eq K (by exact hr.units)) (pe_call D_order_text.G (hr.mono (by decide)) (by rfl) D_order_text.m D_order_text.k D_order_text.b D_order_text.v pass0 (pa_cons (pv 2) pa_nil)) (pv 0) (nomark _))))))))), ?_⟩
    show WS _ _ [.val (.str text), .un, .un, .un] n _
    walk_at "ws1"
    walk_at "ws1"
    walk_at "go"
    refine ⟨ht, h12, ?_⟩
    walk_at "ws1"
    refine ws_tryN (Ξ := fun n' ρ' CC ks => n' = n ∧ ρ' = [.val (.str text), .val (readD (rowsOf text)), .un, .un] ∧ ((CC = X_BadText.C ∧ ∃ i : Nat, badRow 0 (rowsOf text) = some i ∧ ks = xTxt i) ∨ (CC = X_BadOrder.C ∧ badRow 0 (rowsOf text) = none ∧ ∃ w x, firstF [] (evsOf (rowsOf text)) = some (w, x) ∧ ks = xOrd w x))) (fun O' H0' W hW => ?_) (fun n' ρ' CC ks h => ?_)
    · show WS _ _ [.val (.str text), .val (readD (rowsOf text)), .un, .un] n _
      refine ws_set (we_callX hW (dds := []) (fun _ => .nil) ?_)
      walk_at "go"
      refine .inr ⟨text, rfl, ht, h12, fun i hi => ⟨rfl, rfl, .inl ⟨rfl, i, hi, rfl⟩⟩, fun hB => ⟨fun hF => ?_, fun w x hF => ⟨rfl, rfl, .inr ⟨rfl, hB, w, x, hF, rfl⟩⟩⟩⟩
      have hrd := readD_ok hB hF
      have htx := hback hB
      have hl : (evsOf (rowsOf text)).length ≤ 12 := Nat.le_trans (evs_len _) h12
      rw [hrd]
      generalize evsOf (rowsOf text) = es at hw hF htx hl ⊢
      show WS _ _ [.val (.str text), .val (.tup [.str "events", .lst (es.map evL)]), .val (ordD CO CE es), .un] n _
      walk_at "ws1"
      refine we_and (we_op ?_)
      walk_at "go"
      refine r2_eqD (by decide +kernel) (by decide +kernel) ?_
      rw [L3.eq_self (by decide +kernel)]
      refine ⟨_, rfl, itT rfl ?_⟩
      refine we_and (we_op ?_)
      walk_at "go"
      refine ⟨hl, hw, hF, ?_⟩
      refine r2_own ⟨es, rfl, hw, true, rfl, ?_⟩
      refine ⟨_, rfl, itT rfl ?_⟩
      refine we_op ?_
      walk_at "go"
      refine ⟨hl, hw, ?_⟩
      walk_at "go"
      rw [htx]
      refine r2_eqD (okT_fit ht) (okT_fit ht) ?_
      rw [L3.eq_self (okT_fit ht)]
      exact kk
    · obtain ⟨rfl, rfl, h⟩ := h
      rcases h with ⟨rfl, i, hi, rfl⟩ | ⟨rfl, hB, w0, x0, hF, rfl⟩
      · refine .inl ⟨X_BadText.te, fun O' H0' dx a hd => ?_⟩
        rw [readD_bad hi]
        show WS _ _ [.val (.str text), .val (.tup [.str "row", .int (i : Int)]), .un, .val (.adr a)] n' _
        refine ws_ret (we_op ?_)
        walk_at "we1"
        refine we_tup (wa_cons ?_)
        walk_at "we1"
        refine wa_cons (we_xf hd ?_)
        walk_at "we1"
        refine ⟨rfl, _, rfl, ?_⟩
        refine wa_nil ⟨Nat.le_of_ble_eq_true rfl, ?_⟩
        have hf := fit_ri (a := "row") (okc (by decide +kernel)) (i : Int)
        refine r2_eqD hf hf ?_
        rw [L3.eq_self hf]
        exact kk
      · refine .inr ⟨E_no, .inl ⟨X_BadOrder.te, fun O' H0' dx a hd => ?_⟩⟩
        rw [readD_no hB hF]
        show WS _ _ [.val (.str text), .val (.tup [.str w0, .str x0]), .un, .val (.adr a)] n' _
        refine ws_ret (we_op ?_)
        walk_at "we1"
        refine we_tup (wa_cons (we_xf hd ?_))
        walk_at "we1"
        refine ⟨rfl, _, rfl, ?_⟩
        refine wa_cons (we_xf hd ?_)
        walk_at "we1"
        refine ⟨rfl, _, rfl, ?_⟩
        refine wa_nil ⟨Nat.le_of_ble_eq_true rfl, ?_⟩
        have hok2 := first_ok _ _ hw hF
        have hf := fit_two hok2.1 hok2.2
        refine r2_eqD hf hf ?_
        rw [L3.eq_self hf]
        exact kk
/-! what is no text -/
def spNoT : L3.Spec := fun bag n ds Φ => ∃ d, ds = [d] ∧ noText d ∧ Φ n (.bl true)
abbrev s_law_no_text : Stmt := top 33
abbrev N_law_no_text : List Str := ["thing", "e"]
theorem sc_law_no_text : FnScope N_law_no_text ["thing"] (defScope s_law_no_text) := ⟨rfl, rfl, rfl, by decide +kernel, rfl, by decide +kernel, by decide +kernel⟩

theorem ok_notext {f CO CE CB : Addr} {fd : FuncData} (F : Fun K "_law_no_text" "_law_no_text" s_law_no_text f fd) (T : Txt mg) (X_BadText : Xn P w K mg base "BadText" ["row"]) (R_parse_order : Dx P w K mg base "parse_order" 5 ["text"] (spParseO X_BadText.C CB CO CE)) : FnOk P w K mg base CX0 6 f fd ["thing"] (spD K spNoT) := by
  refine fn_D F sc_law_no_text (fun bag n ds Φ h => ?_) (fun cdv A outer s H Ex O bag n ds Φ hr h => ?_)
  · obtain ⟨z, e, _⟩ := h
    rw [e]; rfl
  · obtain ⟨d, e, hno, kk⟩ := h
    subst e
    refine ⟨_, (pss_one (ps_try (i := 1) rfl rfl sc_law_no_text.nd rfl rfl ⟨rfl, by decide, Or.inl X_BadText.m⟩ takes0
 (fun W pn xe tk po => (pss_cons (ps_expr (pe_callSD R_parse_order.G (hr.mono (by decide)) (by rfl) R_parse_order.m R_parse_order.k R_parse_order.b .nil (fun σ => passAt tk σ) (pa_cons (pv 0) pa_nil)))
  (pss_one (ps_ret pe_bl))))
 (fun a oe cls d pn hz hf => (pss_one (ps_ret (pe_cmpR (x_eq K (by exact hr.units)) (pe_xf X_BadText.xf (X_BadText.no _ (by decide)) hz hf (pv 1)) pe_int (nomark _))))))), ?_⟩
    show WS _ _ [.val d, .un] n _
    refine ws_try (Ξ := fun n' ρ' CC ks => n' = n ∧ ρ' = [.val d, .un] ∧ CC = X_BadText.C ∧ ks = xTxt 0) (fun O' H0' W hW => ?_) (fun n' ρ' CC ks h => ?_)
    · show WS _ _ [.val d, .un] n _
      refine ws_seq (ws_drop (we_callX hW (dds := []) (fun _ => .nil) ?_))
      walk_at "go"
      exact .inl ⟨d, rfl, hno, rfl, rfl, rfl, rfl⟩
    · obtain ⟨rfl, rfl, rfl, rfl⟩ := h
      refine ⟨X_BadText.te, fun O' H0' dx a hd => ?_⟩
      show WS _ _ [.val d, .val (.adr a)] n' _
      refine ws_ret (we_op (we_xf hd ?_))
      walk_at "we1"
      refine ⟨rfl, _, rfl, ?_⟩
      walk_at "go"
      exact kk

end
end Toy
namespace L3
open PySem L2
/-- nothing is raised: the promise of a def that may raise, for callers that catch nothing -/
theorem fn_calm {P : Program} {w : World} {K : PySem.W.Frag} {mg : Str → Option Value} {base : Heap} {k : Nat} {f : Addr} {fd : FuncData} {ps : List Str} {S : SpecX} {S' : Spec} (F : FnOk P w K mg base (L2.CX P w) k f fd ps (spDX K S))
    (h : ∀ bag n ds Φ, S' bag n ds Φ → S bag n ds Φ fun _ _ _ => False) : FnOk P w K mg base CX0 k f fd ps (spD K S') := by
  have conv : ∀ vs H Q E, spD K S' vs H Q E → spDX K S vs H Q fun _ _ _ => False := fun vs H Q E ⟨O, bag, n, ds, Φ, hb, hO, r, hS, q⟩ => ⟨O, bag, n, ds, Φ, _, hb, hO, r, h _ _ _ _ hS, q, fun _ _ _ _ _ _ _ _ _ _ _ z => z⟩
  refine ⟨fun vs H Q E q => F.len vs H Q _ (conv _ _ _ _ q), fun A outer s H args us vs Q E hr he hb hv hs => codeAny_mono (F.run A outer s H args us vs Q _ hr he hb hv (conv _ _ _ _ hs)) fun r s' hq => ?_⟩
  cases r with
  | ok fl => cases fl <;> exact hq
  | error e =>
    obtain ⟨_, _, _, _, _, _, _, _, _, _, _, _, z⟩ := hq
    exact z.elim
end L3
namespace Toy
open PySem L2 L3 TL
local macro_rules | `(tactic| walk_at "we1") => `(tactic| first
  | ((with_reducible refine' we_var ?hv ?_); (case hv => rfl))
  | (with_reducible refine we_int ?_)
  | (with_reducible refine we_str ?_)
  | (with_reducible refine we_bl ?_)
  | (with_reducible refine we_non ?_)
  | ((with_reducible refine' we_dix ?hv ?_); (case hv => rfl))
  | (with_reducible refine we_op ?_)
  | ((with_reducible refine' we_dget ?hv ?_); (case hv => rfl))
  | (with_reducible refine we_count ?_)
  | (with_reducible refine we_cb ?_)
  | (with_reducible refine we_call0 ?_)
  | (with_reducible refine we_tup ?_)
  | (with_reducible refine we_lst ?_)
  | (with_reducible refine we_if ?_)
  | (with_reducible refine we_not ?_)
  | (with_reducible refine we_and ?_)
  | (with_reducible refine we_or ?_)
  | (with_reducible refine we_isN ?_)
  | (with_reducible refine we_notN ?_)
  | (with_reducible refine we_sl ?_)
  | (with_reducible refine wa_cons ?_)
  | (with_reducible refine wa_nil ?_)
  | (with_reducible refine wt_test ?_)
  | (with_reducible refine wt_B ?_)
  | (with_reducible refine wt_and ?_)
  | (with_reducible refine wt_or ?_)
  | (with_reducible refine wt_not ?_)
  | (with_reducible refine wt_yes ?_)
  | (with_reducible refine wo_none ?_)
  | (with_reducible refine wo_some ?_)
  | ((with_reducible refine' r2_ix ?hx ?_); (case hx => rfl))
  | (with_reducible refine r2_isN ?_)
  | (with_reducible refine r2_notN ?_)
  | (with_reducible refine r2_lt ?_)
  | (with_reducible refine r2_le ?_)
  | (with_reducible refine r2_gt ?_)
  | (with_reducible refine r2_ge ?_)
  | (with_reducible refine r2_sub ?_)
  | (with_reducible refine r2_addI ?_)
  | (with_reducible refine r2_eqI ?_)
  | (with_reducible refine r2_neI ?_)
  | (with_reducible refine rc_int ?_)
  | (with_reducible refine rc_abs ?_)
  | ((with_reducible refine' rc_len ?hl ?_); (case hl => rfl))
  | (with_reducible refine wi_seq ?_)
  | (with_reducible refine wi_rng1 ?_)
  | (with_reducible refine wi_rng2 ?_)
  | (with_reducible refine wi_enum ?_)
  | (refine ⟨_, rfl, ?_⟩))
local macro_rules | `(tactic| walk_at "ws1") => `(tactic| first
  | (with_reducible refine ws_seq ?_)
  | (with_reducible refine ws_set ?_)
  | (with_reducible refine ws_ret ?_)
  | (with_reducible refine ws_if ?_)
  | (with_reducible refine ws_next ?_)
  | (with_reducible refine ws_asg ?_))
local macro_rules | `(tactic| walk_at "wg1") => `(tactic| first
  | (with_reducible refine wg_name (rw_name (by decide)) ?_)
  | (with_reducible refine wg_name (fun _ _ => trivial) ?_)
  | ((with_reducible refine' wg_tup ?hl ?_); (case hl => rfl))
  | (with_reducible refine wgs_cons rw_trans ?_)
  | (with_reducible refine wgs_nil rw_refl ?_)
  | (with_reducible refine wgs_cons (fun _ _ _ _ _ => trivial) ?_)
  | (with_reducible refine wgs_nil (fun _ => trivial) ?_))
local macro_rules | `(tactic| walk_at "go") => `(tactic| repeat' (first | walk_at "we1" | walk_at "wg1"))
section
variable {P : Program} {w : World} {K : PySem.W.Frag} {mg : Str → Option Value} {base : Heap}
def spBag (K : PySem.W.Frag) : Sp := fun vs H Q _ => ∃ (a : Addr) (ns : List Int), vs = [.ref a] ∧ SqL K H a (ns.map V.int) ∧ ns.length ≤ 63 ∧
  ∀ (b q : Addr) (cs : List Int) (H' : Hp), q ≠ b → H' b = some (.lst [.ref q, .int 0, .int 0]) → H' q = some (.lst (cs.map V.int)) → cs ≠ [] → (∀ c ∈ cs, 0 ≤ c) → cs.length ≤ 63 → Q (.ref b) H'
def absD : D → D
  | .int i => .int (if i < 0 then -i else i)
  | d => d
abbrev s_law_bag : Stmt := top 23
abbrev N_law_bag : List Str := ["script", "cell", "cells"]
theorem sc_law_bag : FnScope N_law_bag ["script"] (defScope s_law_bag) := ⟨rfl, rfl, rfl, by decide +kernel, rfl, by decide +kernel, by decide +kernel⟩

theorem ok_bag {f : Addr} {fd : FuncData} (F : Fun K "_law_bag" "_law_bag" s_law_bag f fd) (T : Txt mg) : FnOk P w K mg base CX0 1 f fd ["script"] (spBag K) := by
  refine F.ok sc_law_bag (fun vs H Q E h => ?_) (fun cdv A outer s H vs Q E hr h => ?_)
  · obtain ⟨a, ns, rfl, _⟩ := h
    rfl
  · obtain ⟨a, ns, rfl, hS, hlen, k⟩ := h
    refine ⟨_, (pss_cons (ps_setLc (i := 2) (own := [("cell", 1)]) (g := gName 1) (tt := tYes) rfl sc_law_bag.nd rfl rfl (sw_true rfl rfl rfl (by decide +kernel)) (x_seq K (pe_slice (x_sl K) (pv 0) po_none (po_some pe_int))) (blkOk_by (own := [("cell", 1)]) (N := N_law_bag) (sc := defScope s_law_bag) (by decide +kernel)) (fun _ _ _ _ _ => (pg_name (i := 1) sc_law_bag.nd rfl (Or.inl rfl))) (fun _ _ _ _ _ => pts_nil) (fun _ _ _ _ _ => (pe_callB call_absX (by rfl) T.b_abs (by decide +kernel) (pa_cons (pv 1) pa_nil))))
  (pss_cons (ps_if (pt_cmpR (x_eq K (by exact hr.units)) (pe_callB (x_len K) (by rfl) T.b_len (by decide +kernel) (pa_cons (pv 2) pa_nil)) pe_int (nomark _)) (pss_one (ps_set (i := 2) sc_law_bag.nd rfl (Or.inl rfl) (pe_lst (pa_cons pe_int pa_nil)))) pss_nil)
  (pss_one (ps_ret (pe_lst (pa_cons (pv 2) (pa_cons pe_int (pa_cons pe_int pa_nil)))))))), ?_⟩
    refine st_seq ?_
    refine' (?W1 : WS ⟨P, w, K, [], none, H⟩ _ [.val (.adr a), .un, .un] 0 { nx := fun n1 ρ1 => ∃ cs : List Int, ρ1 = [.val (.adr a), .un, .own (cs.map .int)] ∧ cs.length ≤ 63 ∧ ∀ c ∈ cs, 0 ≤ c, rt := fun _ _ => False }) (fun _ => none) [] _ H _ ?E1 ?A1
    case E1 =>
      exact { nd := List.nodup_nil, fresh := (fun l hl => nomatch hl), slots := ⟨[], .val (.adr a) (.un (.un .nil)), List.Sublist.refl _⟩, lst := (fun l hl => nomatch hl), bag := (fun b q e => nomatch e), base := Same.refl _,
              pers := (fun _ _ e => nomatch e), bO := (fun b q e => nomatch e), al := (fun o ho => nomatch ho) }
    case W1 =>
      refine ws_own (i := 2) (Nat.le_of_ble_eq_true rfl) (wf_map absD (fun _ => true) ?_)
      refine wi_seq (we_slA (a := a) (ns := ns) rfl hS rfl ?_)
      walk_at "go"
      obtain ⟨ys, e1, e2⟩ := cut_map D.int ns none (some 63)
      have hy := e2.length_le
      rw [e1]
      refine ⟨by rw [List.length_map]; omega, fun d hd m => ?_, ?_⟩
      · obtain ⟨y, hy, rfl⟩ := List.mem_map.mp hd
        walk_at "go"
        refine ⟨rfl, rfl, fun _ => ?_⟩
        walk_at "go"
        exact ⟨rfl, rfl⟩
      rw [filt_all]
      refine ⟨ys.map fun i => if i < 0 then -i else i, ?_, by rw [List.length_map]; omega, fun c hc => ?_⟩
      · rw [List.map_map, List.map_map]; rfl
      · obtain ⟨y, _, rfl⟩ := List.mem_map.mp hc
        by_cases q : y < 0
        · rw [if_pos q]; omega
        · rw [if_neg q]; omega
    refine { nx := fun L n H1 σ1 ρ1 E1 ⟨cs, e, h1, h2⟩ => ?_, rt := fun _ _ _ _ _ _ _ h => h.elim, bk := fun _ _ _ _ _ _ h => h.elim, ct := fun _ _ _ _ _ _ h => h.elim }
    subst e
    dsimp only
    refine st_seq ?_
    refine' (?W2 : WS ⟨P, w, K, [], none, H⟩ _ [.val (.adr a), .un, .own (cs.map .int)] n { nx := fun n1 ρ1 => ∃ cs : List Int, ρ1 = [.val (.adr a), .un, .own (cs.map .int)] ∧ cs.length ≤ 63 ∧ (∀ c ∈ cs, 0 ≤ c) ∧ cs ≠ [], rt := fun _ _ => False }) _ L σ1 H1 _ E1 ?A2
    case W2 =>
      refine ws_if (wt_look 2 rfl ?_)
      walk_at "go"
      refine dec2 (fun hz => ?_) (fun hz => ?_)
      · refine ws_own (i := 2) (Nat.le_of_ble_eq_true rfl) ?_
        refine wf_lst ?_
        walk_at "go"
        exact ⟨Nat.le_of_ble_eq_true rfl, [5], rfl, by decide, by decide, by decide⟩
      · walk_at "ws1"
        refine ⟨cs, rfl, h1, h2, fun q => ?_⟩
        subst q
        exact hz rfl
    refine { nx := fun L n H2 σ2 ρ2 E2 ⟨cs, e, h1, h2, h3⟩ => ?_, rt := fun _ _ _ _ _ _ _ h => h.elim, bk := fun _ _ _ _ _ _ h => h.elim, ct := fun _ _ _ _ _ _ h => h.elim }
    subst e
    obtain ⟨l, xs, g1, g2, g3, _⟩ := E2.own_at (i := 2) rfl
    have ex := g3.ints
    subst ex
    refine ⟨_, g1, Nat.le_of_ble_eq_true rfl, fun p hp => ?_⟩
    have npl : l ≠ p := fun e => by rw [← e, g2] at hp; cases hp
    exact k p l cs _ npl upd_same (by rw [upd_ne npl]; exact g2) h3 h2 h1
def spParseP (CO CE : Addr) : L3.Spec := fun bag n ds Φ => ∃ text : Str, ds = [.str text] ∧ okT text ∧ (rowsOf text).length ≤ 12 ∧ badRow 0 (rowsOf text) = none ∧ firstF [] (evsOf (rowsOf text)) = none ∧ Φ n (ordD CO CE (evsOf (rowsOf text)))
theorem ok_parseP {f CO CE CT CB : Addr} {fd : FuncData} (F : FnOk P w K mg base (L2.CX P w) 5 f fd ["text"] (spDX K (spParseO CT CB CO CE))) : FnOk P w K mg base CX0 5 f fd ["text"] (spD K (spParseP CO CE)) :=
  fn_calm F fun bag n ds Φ ⟨text, e, ht, h12, hB, hF, kk⟩ => .inr ⟨text, e, ht, h12, (fun i hi => by rw [hB] at hi; cases hi), fun _ => ⟨fun _ => kk, fun w x q => by rw [hF] at q; cases q⟩⟩
theorem ok_parseQ {f CO CE : Addr} {fd : FuncData} (F : Fun K "parse_order" "parse_order" s_parse_order f fd) (T : Txt mg) (X_BadText : Xn P w K mg base "BadText" ["row"]) (CB : Addr) (R_Order : Mnx P w K mg base CO "Order" 3 ["self", "events"] [] [] (spOrderX CB CE)) (D_parse_event : Dn P w K mg base "parse_event" 3 ["row"] [] [] (spParse CE)) : FnOk P w K mg base CX0 5 f fd ["text"] (spD K (spParseP CO CE)) := ok_parseP (ok_parseO F T X_BadText CB R_Order D_parse_event)
/-! the text of a drawn order -/
theorem at_dig {e : Toy.Ev} {el : List Str} (h : DrE el e) : ((toString e.at_ : String) : Str) ∈ digs ∧ digV ((toString e.at_ : String) : Str) = e.at_ ∧ ((toString e.at_ : String) : Str).length = 1 ∧ 32 ∉ tl ((toString e.at_ : String) : Str) ∧ 10 ∉ tl ((toString e.at_ : String) : Str) ∧ ∀ u ∈ tl ((toString e.at_ : String) : Str), u < 128 := by
  have h1 := h.lo
  have h2 := h.hi
  have : e.at_ = 1 ∨ e.at_ = 2 ∨ e.at_ = 3 ∨ e.at_ = 4 ∨ e.at_ = 5 := by omega
  rcases this with q | q | q | q | q <;> (rw [q]; decide +kernel)
abbrev parts (e : Toy.Ev) : List Str := [e.kind, e.nm, ((toString e.at_ : String) : Str)] ++ e.needs
theorem parts_ok {e : Toy.Ev} {el : List Str} (h : DrE el e) : ∀ p ∈ parts e, 32 ∉ tl p ∧ 10 ∉ tl p ∧ (∀ u ∈ tl p, u < 128) ∧ p.length ≤ 8 := fun p hp => by
  rcases List.mem_append.mp hp with q | q
  · simp only [List.mem_cons, List.not_mem_nil, or_false] at q
    rcases q with rfl | rfl | rfl
    · have z := kinds_ok h.kd
      exact ⟨z.2.2.1, z.2.2.2, z.1.1, by omega⟩
    · have z := PL_ok h.nm
      exact ⟨z.sp, z.nl, z.ok.1, z.le⟩
    · have z := at_dig h
      exact ⟨z.2.2.2.1, z.2.2.2.2.1, z.2.2.2.2.2, by omega⟩
  · have z := PL_ok (h.pl p q)
    exact ⟨z.sp, z.nl, z.ok.1, z.le⟩
theorem row_split {e : Toy.Ev} {el : List Str} (h : DrE el e) : Txt.split (rowT e) (sep 32) = parts e := split_join1 (by decide) (by simp) fun p hp => (parts_ok h p hp).1
theorem row_parse {e : Toy.Ev} {el : List Str} (h : DrE el e) : parseR (rowT e) = some e := by
  unfold parseR
  rw [row_split h]
  have z := at_dig h
  have hn : (e.nm :: e.needs).all isName = true := List.all_eq_true.mpr fun x hx => by
    rcases List.mem_cons.mp hx with q | q
    · rw [q]; exact (PL_ok h.nm).nm
    · exact (PL_ok (h.pl x q)).nm
  show (if e.kind ∈ kinds2 ∧ ((toString e.at_ : String) : Str) ∈ digs ∧ (e.nm :: e.needs).all isName = true then some (⟨e.nm, digV ((toString e.at_ : String) : Str), e.kind, e.needs⟩ : Toy.Ev) else none) = some e
  rw [if_pos ⟨h.kd, z.1, hn⟩, z.2.1]
theorem join_mem (y : Str) : ∀ (ps : List Str) (u : Nat), u ∈ tl (Txt.join y ps) → u ∈ tl y ∨ ∃ p ∈ ps, u ∈ tl p := fun ps u hu => by
  have e : ∀ (zs : List (List Nat)), u ∈ joinL (tl y) zs → u ∈ tl y ∨ ∃ p ∈ zs, u ∈ p := by
    intro zs
    induction zs with
    | nil => intro h; cases h
    | cons p r ih =>
      cases r with
      | nil => exact fun h => .inr ⟨p, List.mem_singleton.mpr rfl, h⟩
      | cons q r =>
        intro h
        have h' : u ∈ p ++ (tl y ++ joinL (tl y) (q :: r)) := h
        rcases List.mem_append.mp h' with z | z
        · exact .inr ⟨p, List.mem_cons_self, z⟩
        · rcases List.mem_append.mp z with z | z
          · exact .inl z
          · rcases ih z with z | ⟨x, hx, hu⟩
            · exact .inl z
            · exact .inr ⟨x, List.mem_cons_of_mem _ hx, hu⟩
  rw [join_eq, tl_join] at hu
  rcases e _ hu with z | ⟨p, hp, q⟩
  · exact .inl z
  · obtain ⟨x, hx, rfl⟩ := List.mem_map.mp hp
    exact .inr ⟨x, hx, q⟩
theorem row_signs {e : Toy.Ev} {el : List Str} (h : DrE el e) : 10 ∉ tl (rowT e) ∧ (∀ u ∈ tl (rowT e), u < 128) ∧ (rowT e).length ≤ 54 := by
  refine ⟨fun q => ?_, fun u hu => ?_, ?_⟩
  · rcases join_mem _ _ _ q with z | ⟨p, hp, z⟩
    · rw [sep_tl] at z
      exact absurd (List.mem_singleton.mp z) (by decide)
    · exact (parts_ok h p hp).2.1 z
  · rcases join_mem _ _ _ hu with z | ⟨p, hp, z⟩
    · rw [sep_tl] at z
      have := List.mem_singleton.mp z
      omega
    · exact (parts_ok h p hp).2.2.1 u z
  · refine Nat.le_trans (join_len _ _) ?_
    have z := sum_le 8 (parts e) fun p hp => (parts_ok h p hp).2.2.2
    have h3 := h.le
    have h4 : (parts e).length = 3 + e.needs.length := by rw [List.length_append]; rfl
    have h5 : (sep 32).length = 1 := rfl
    rw [h4] at z
    show ((parts e).map (·.length)).sum + (parts e).length * (sep 32).length ≤ 54
    rw [h4, h5]
    omega
theorem rows_of {es : List Toy.Ev} (h : Built es) : rowsOf (textT es) = es.map rowT := by
  by_cases he : es = []
  · subst he; rfl
  · have hs : Txt.split (textT es) (sep 10) = es.map rowT := split_join1 (by decide) (fun q => he (List.map_eq_nil_iff.mp q)) fun p hp => by
      obtain ⟨e, he, rfl⟩ := List.mem_map.mp hp
      obtain ⟨el, g⟩ := built_mem h he
      exact (row_signs g).1
    have ne : textT es ≠ "" := fun q => by
      cases es with
      | nil => exact he rfl
      | cons e r =>
        obtain ⟨el, g⟩ := built_mem h (List.mem_cons_self (a := e) (l := r))
        have e1 := split_len (s := 10) (by decide) (textT (e :: r))
        have e2 := hs
        rw [q] at e2 e1
        have e3 : r = [] := by
          rw [e2, List.length_map] at e1
          have : (tl ("" : Str)).count 10 = 0 := rfl
          rw [this, List.length_cons] at e1
          exact List.length_eq_zero_iff.mp (by omega)
        subst e3
        have e4 : rowT e = "" := by
          have := join_split (s := 10) (by decide) (textT [e])
          rw [q] at this
          have h1 : textT [e] = rowT e := join_one _ _
          rw [← h1]; exact q
        have e5 := row_split g
        have e6 := split_len (s := 32) (by decide) (rowT e)
        rw [e5, e4] at e6
        have : (tl ("" : Str)).count 32 = 0 := rfl
        rw [this] at e6
        have h4 : (parts e).length = 3 + e.needs.length := by rw [List.length_append]; rfl
        omega
    exact (if_neg ne).trans hs
theorem all_parse : ∀ (es : List Toy.Ev) (k : Nat), (∀ e ∈ es, ∃ el, DrE el e) → badRow k (es.map rowT) = none ∧ evsOf (es.map rowT) = es
  | [], _, _ => ⟨rfl, rfl⟩
  | e :: es, k, h => by
    obtain ⟨el, g⟩ := h e List.mem_cons_self
    have ih := all_parse es (k + 1) fun x hx => h x (List.mem_cons_of_mem _ hx)
    have hp := row_parse g
    refine ⟨?_, ?_⟩
    · show badRow k (rowT e :: es.map rowT) = none
      rw [badRow_step hp]; exact ih.1
    · show (rowT e :: es.map rowT).filterMap parseR = _
      rw [List.filterMap_cons, hp]
      show e :: evsOf (es.map rowT) = _
      rw [ih.2]
theorem text_tx {es : List Toy.Ev} (h : Built es) : Tx 0 (textT es) := by
  refine ⟨fun u hu => ?_, ?_, ?_⟩
  · rcases join_mem _ _ _ hu with z | ⟨p, hp, z⟩
    · rw [sep_tl] at z
      have := List.mem_singleton.mp z
      omega
    · obtain ⟨e, he, rfl⟩ := List.mem_map.mp hp
      obtain ⟨el, g⟩ := built_mem h he
      exact (row_signs g).2.1 u z
  · refine Nat.le_trans (join_len _ _) ?_
    have z := sum_le 54 (es.map rowT) fun p hp => by
      obtain ⟨e, he, rfl⟩ := List.mem_map.mp hp
      obtain ⟨el, g⟩ := built_mem h he
      exact (row_signs g).2.2
    have h8 := h.1
    have h5 : (sep 10).length = 1 := rfl
    rw [List.length_map] at z ⊢
    rw [h5]
    omega
  · have h1 := rows_of h
    have h8 := h.1
    by_cases q : textT es = ""
    · rw [q]; exact Nat.zero_le _
    · have h2 : rowsOf (textT es) = Txt.split (textT es) (sep 10) := if_neg q
      have h3 := split_len (s := 10) (by decide) (textT es)
      rw [← h2, h1, List.length_map] at h3
      omega
theorem dep_all (m : Nat) : ∀ ds : List D, (∀ d ∈ ds, (dpy d).depth ≤ m) → (dpy (.lst ds)).depth ≤ m + 1 ∧ (dpy (.tup ds)).depth ≤ m + 1 := fun ds h => by
  have e : PyData.depthAll (dpyAll ds) ≤ m := by
    induction ds with
    | nil => exact Nat.zero_le _
    | cons x ds ih =>
      show max (PyData.depth (dpy x)) (PyData.depthAll (dpyAll ds)) ≤ m
      exact Nat.max_le.mpr ⟨h x List.mem_cons_self, ih fun d hd => h d (List.mem_cons_of_mem _ hd)⟩
  exact ⟨(show PyData.depthAll (dpyAll ds) + 1 ≤ m + 1 by omega), (show PyData.depthAll (dpyAll ds) + 1 ≤ m + 1 by omega)⟩
theorem fit_evL {es : List Toy.Ev} (h : ∀ e ∈ es, Well e) : fit (.lst (es.map evL)) = true := by
  refine (fit_list fun d hd => ?_).1
  obtain ⟨e, he, rfl⟩ := List.mem_map.mp hd
  have we := h e he
  have hs : ∀ d ∈ e.needs.map D.str, fit d = true ∧ (dpy d).depth ≤ 0 := fun d hd => by
    obtain ⟨x, hx, rfl⟩ := List.mem_map.mp hd
    exact ⟨okT_fit (we.ts x hx), Nat.zero_le _⟩
  have fn := (fit_list fun d hd => ⟨(hs d hd).1, Nat.le_trans (hs d hd).2 (by decide)⟩).1
  have dn := (dep_all 0 _ fun d hd => (hs d hd).2).1
  have all : ∀ d ∈ [D.str e.nm, .int e.at_, .str e.kind, .lst (e.needs.map .str)], fit d = true ∧ (dpy d).depth ≤ 1 := fun d hd => by
    simp only [List.mem_cons, List.not_mem_nil, or_false] at hd
    rcases hd with rfl | rfl | rfl | rfl
    · exact ⟨okT_fit we.tn, Nat.zero_le _⟩
    · exact ⟨rfl, Nat.zero_le _⟩
    · exact ⟨okT_fit we.tk, Nat.zero_le _⟩
    · exact ⟨fn, dn⟩
  exact ⟨(fit_list fun d hd => ⟨(all d hd).1, Nat.le_trans (all d hd).2 (by decide)⟩).2, Nat.le_trans (dep_all 1 _ fun d hd => (all d hd).2).2 (by decide)⟩
def evLo (C : Addr) : D → D
  | .obj _ [(_, .str a), (_, .int b), (_, .str c), (_, .tup ds)] => .tup [.str a, .int b, .str c, .lst ds]
  | _ => .non
def spLaw (K : PySem.W.Frag) : Sp := fun vs H Q _ => ∃ (a : Addr) (ns : List Int), vs = [.ref a] ∧ SqL K H a (ns.map V.int) ∧ ns.length ≤ 63 ∧ ∀ H', Q (.bl true) H'
theorem no_at {r : Int} (h0 : 0 ≤ r) (h1 : r < 5) : ∃ d, ixD (.lst [.non, .int 7, .lst [.str "query a 1"], .tup [.str "query a 1"], .bl true]) r = some d ∧ noText d := by
  obtain rfl | rfl | rfl | rfl | rfl : r = 0 ∨ r = 1 ∨ r = 2 ∨ r = 3 ∨ r = 4 := by omega
  · exact ⟨_, rfl, "NoneType", rfl, by decide +kernel⟩
  · exact ⟨_, rfl, "int", rfl, by decide +kernel⟩
  · exact ⟨_, rfl, "list", rfl, by decide +kernel⟩
  · exact ⟨_, rfl, "tuple", rfl, by decide +kernel⟩
  · exact ⟨_, rfl, "bool", rfl, by decide +kernel⟩
abbrev s_law : Stmt := top 34
abbrev N_law : List Str := ["script", "bag", "events", "order", "text", "event", "turn", "spoiled"]
theorem sc_law : FnScope N_law ["script"] (defScope s_law) := ⟨rfl, rfl, rfl, by decide +kernel, rfl, by decide +kernel, by decide +kernel⟩

theorem ok_law {f CO CE : Addr} {fd : FuncData} (F : Fun K "law" "law" s_law f fd) (T : Txt mg) (TO : OrT K CO) (TE : EvT K CE) (I_Order : ItOwn P w K mg base CO "events" 1) (O_Order : On P w K mg base CO 3 ["self", "other"] (spEqO CO CE)) (D_law_bag : Dr P w K mg base "_law_bag" 1 ["script"] (spBag K)) (D_law_draw : Dn P w K mg base "_law_draw" 1 ["bag", "limit"] [] [] spDraw)
    (D_law_no_text : Dn P w K mg base "_law_no_text" 6 ["thing"] [] [] spNoT) (D_law_drawn_events : Dn P w K mg base "_law_drawn_events" 3 ["bag"] [] [] spDrawnL) (D_law_made : Dn P w K mg base "_law_made" 5 ["events"] [] [] (spMadeO CO CE)) (D_order_text : Dn P w K mg base "order_text" 2 ["order"] [] [] (spText CO CE)) (D_law_text : Dn P w K mg base "_law_text" 1 ["events"] [] [] spLText)
    (D_parse_order : Dn P w K mg base "parse_order" 5 ["text"] [] [] (spParseP CO CE)) (D_law_spoiled : Dn P w K mg base "_law_spoiled" 2 ["bag", "text"] [] [] spSpoil) (D_law_back_right : Dn P w K mg base "_law_back_right" 6 ["text"] [] [] spBack) : FnOk P w K mg base CX0 7 f fd ["script"] (spLaw K) := by
  refine F.ok sc_law (fun vs H Q E h => ?_) (fun cdv A outer s H vs Q E hr h => ?_)
  · obtain ⟨a, ns, rfl, _⟩ := h
    rfl
  · obtain ⟨a, ns, rfl, hS, hlen, k⟩ := h
    refine ⟨_, (pss_cons (ps_set (i := 1) sc_law.nd rfl (Or.inl rfl) (pe_call D_law_bag.G (hr.mono (by decide)) (by rfl) D_law_bag.m D_law_bag.k D_law_bag.b D_law_bag.v pass0 (pa_cons (pv 0) pa_nil)))
  (pss_cons (ps_if (pt_not (pt_val (pe_call D_law_no_text.G (hr.mono (by decide)) (by rfl) D_law_no_text.m D_law_no_text.k D_law_no_text.b D_law_no_text.v pass0 (pa_cons (pe_ix (x_ix K) (pe_lst (pa_cons pe_non (pa_cons pe_int (pa_cons (pe_lst (pa_cons pe_str pa_nil)) (pa_cons (pe_tup (pa_cons pe_str pa_nil)) (pa_cons pe_bl pa_nil)))))) (pe_call D_law_draw.G (hr.mono (by decide)) (by rfl) D_law_draw.m D_law_draw.k D_law_draw.b D_law_draw.v pass0 (pa_cons (pv 1) (pa_cons pe_int pa_nil))) (fun _ _ => rfl)) pa_nil)))) (pss_one (ps_ret pe_bl)) pss_nil)
  (pss_cons (ps_set (i := 2) sc_law.nd rfl (Or.inl rfl) (pe_call D_law_drawn_events.G (hr.mono (by decide)) (by rfl) D_law_drawn_events.m D_law_drawn_events.k D_law_drawn_events.b D_law_drawn_events.v pass0 (pa_cons (pv 1) pa_nil)))
  (pss_cons (ps_set (i := 3) sc_law.nd rfl (Or.inl rfl) (pe_call D_law_made.G (hr.mono (by decide)) (by rfl) D_law_made.m D_law_made.k D_law_made.b D_law_made.v pass0 (pa_cons (pv 2) pa_nil)))
  (pss_cons (ps_set (i := 4) sc_law.nd rfl (Or.inl rfl) (pe_call D_order_text.G (hr.mono (by decide)) (by rfl) D_order_text.m D_order_text.k D_order_text.b D_order_text.v pass0 (pa_cons (pv 3) pa_nil)))
  (pss_cons (ps_if (PW.pt (pw_or (pt_cmpR (x_ne K (by exact hr.units)) (pv 4) (pe_call D_law_text.G (hr.mono (by decide)) (by rfl) D_law_text.m D_law_text.k D_law_text.b D_law_text.v pass0 (pa_cons (pv 2) pa_nil)) (nomark _)) (pw_or (pt_cmpR (op_ownNe O_Order.G O_Order.T (hr.mono (by decide)) O_Order.b pass0) (pe_call D_parse_order.G (hr.mono (by decide)) (by rfl) D_parse_order.m D_parse_order.k D_parse_order.b D_parse_order.v pass0 (pa_cons (pv 4) pa_nil)) (pv 3) (nomark _)) (pw_or1 (pt_not (pt_cmpR (op_ownEq O_Order.G O_Order.T (hr.mono (by decide)) O_Order.b pass0) (pe_call D_parse_order.G (hr.mono (by decide)) (by rfl) D_parse_order.m D_parse_order.k D_parse_order.b D_parse_order.v pass0 (pa_cons (pv 4) pa_nil)) (pv 3) (nomark _))))))) (pss_one (ps_ret pe_bl)) pss_nil)
  (pss_cons (ps_if (pt_cmpR (x_ne K (by exact hr.units)) (pe_lc (own := [("event", 5)]) (g := gName 5) (tt := tYes) rfl sc_law.nd (pi_own (pe_call D_parse_order.G (hr.mono (by decide)) (by rfl) D_parse_order.m D_parse_order.k D_parse_order.b D_parse_order.v pass0 (pa_cons (pv 4) pa_nil)) I_Order.G I_Order.it I_Order.fn (hr.mono (by decide)) pass0) (blkOk_by (own := [("event", 5)]) (N := N_law) (sc := defScope s_law) (by decide +kernel)) (fun _ _ _ _ _ => (pg_name (i := 5) sc_law.nd rfl (Or.inl rfl))) (fun _ _ _ _ _ => pts_nil) (fun _ _ _ _ _ => (pe_tup (pa_cons (x_fld K (pe_fld (pv 5) rfl)) (pa_cons (x_fld K (pe_fld (pv 5) rfl)) (pa_cons (x_fld K (pe_fld (pv 5) rfl)) (pa_cons (pe_callTy (x_list K) (by rfl) T.b_list (by decide +kernel) (pa_cons (x_fld K (pe_fld (pv 5) rfl)) pa_nil)) pa_nil))))))) (pv 2) (nomark _)) (pss_one (ps_ret pe_bl)) pss_nil)
  (pss_cons (ps_for PassesOwn.never rfl (pi_range1 (by rfl) T.b_range (pa_cons pe_int pa_nil)) (pg_name (i := 6) sc_law.nd rfl (Or.inl rfl)) (pss_cons (ps_set (i := 7) sc_law.nd rfl (Or.inl rfl) (pe_call D_law_spoiled.G (hr.mono (by decide)) (by rfl) D_law_spoiled.m D_law_spoiled.k D_law_spoiled.b D_law_spoiled.v pass0 (pa_cons (pv 1) (pa_cons (pv 4) pa_nil))))
  (pss_cons (ps_if (pt_not (pt_val (pe_call D_law_back_right.G (hr.mono (by decide)) (by rfl) D_law_back_right.m D_law_back_right.k D_law_back_right.b D_law_back_right.v pass0 (pa_cons (pv 7) pa_nil)))) (pss_one (ps_ret pe_bl)) pss_nil)
  (pss_one (ps_if (PW.pt (pw_and (pt_cmpR (x_eq K (by exact hr.units)) (pe_call D_law_draw.G (hr.mono (by decide)) (by rfl) D_law_draw.m D_law_draw.k D_law_draw.b D_law_draw.v pass0 (pa_cons (pv 1) (pa_cons pe_int pa_nil))) pe_int (nomark _)) (pw_and1 (pt_not (pt_val (pe_call D_law_back_right.G (hr.mono (by decide)) (by rfl) D_law_back_right.m D_law_back_right.k D_law_back_right.b D_law_back_right.v pass0 (pa_cons (pe_call D_law_spoiled.G (hr.mono (by decide)) (by rfl) D_law_spoiled.m D_law_spoiled.k D_law_spoiled.b D_law_spoiled.v pass0 (pa_cons (pv 1) (pa_cons (pv 7) pa_nil))) pa_nil))))))) (pss_one (ps_ret pe_bl)) pss_nil)))))
  (pss_one (ps_ret pe_bl)))))))))), ?_⟩
    refine st_seq ?_
    refine ⟨_, rfl, a, ns, rfl, hS, hlen, fun b q bs H1 nqb g1 g2 g3 g4 g5 => ?_⟩
    refine gN_go ?_
    dsimp only
    refine' (?W : WS ⟨P, w, K, [q, b], some (b, q), H1⟩ _ [.un, .val (.adr b), .un, .un, .un, .un, .un, .un] 0 { nx := fun _ _ => False, rt := fun _ d => d = .bl true }) (fun _ => none) [] _ H1 _ ?E1 ?A1
    case E1 =>
      exact { nd := List.nodup_nil, fresh := (fun l hl => nomatch hl), slots := ⟨[], .un (.val (.adr b) (slots_un 6)), List.Sublist.refl _⟩, lst := (fun l hl => nomatch hl), bag := (fun b' q' e => by cases e; exact ⟨0, 0, bs, g1, g2, g3, g4, g5, Int.le_refl _, Int.le_refl _, Int.le_refl _⟩), base := Same.refl _,
              pers := (fun _ _ e => nomatch e), bO := (fun b' q' e => by cases e; exact ⟨List.mem_cons_of_mem _ List.mem_cons_self, List.mem_cons_self, nqb⟩),
              al := fun o ho => by
                rcases List.mem_cons.mp ho with e | e
                · rw [e, g2]; exact fun z => nomatch z
                · rw [List.mem_singleton.mp e, g1]; exact fun z => nomatch z }
    case A1 =>
      exact { nx := fun _ _ _ _ _ _ h => h.elim, rt := fun v d n H' _ _ r e => by subst e; cases r; exact k H', bk := fun _ _ _ _ _ _ h => h.elim, ct := fun _ _ _ _ _ _ h => h.elim }
    case W =>
      clear g1 g2 g3 g4 g5 hS hlen k
      walk_at "ws1"
      refine ws_if ?_
      walk_at "go"
      refine ⟨Nat.le_of_ble_eq_true rfl, ?_⟩
      walk_at "go"
      refine ⟨Nat.le_of_ble_eq_true rfl, ?_⟩
      walk_at "go"
      refine ⟨Nat.le_of_ble_eq_true rfl, ?_⟩
      walk_at "go"
      refine ⟨b, q, 5, rfl, rfl, by decide, by decide, by decide, fun r h0 h4 => ?_⟩
      obtain ⟨d, hd, hno⟩ := no_at h0 h4
      refine r2_ix hd ?_
      refine wa_nil ⟨d, rfl, hno, ?_⟩
      refine ⟨_, rfl, itF rfl ?_⟩
      walk_at "ws1"
      walk_at "ws1"
      walk_at "ws1"
      walk_at "go"
      refine ⟨b, q, rfl, rfl, by omega, fun es n1 hB hn1 => ?_⟩
      have hw := built_well hB
      have hF := built_first hB
      have h8 := hB.1
      have htx := text_tx hB
      have hR := rows_of hB
      have hap := all_parse es 0 fun e he => built_mem hB he
      have hev : evsOf (rowsOf (textT es)) = es := by rw [hR]; exact hap.2
      have hb1 : badRow 0 (rowsOf (textT es)) = none := by rw [hR]; exact hap.1
      have hb2 : firstF [] (evsOf (rowsOf (textT es))) = none := by rw [hev]; exact hF
      walk_at "ws1"
      walk_at "ws1"
      walk_at "go"
      refine ⟨by omega, hw, hF, ?_⟩
      walk_at "ws1"
      walk_at "ws1"
      walk_at "go"
      refine ⟨by omega, hw, ?_⟩
      walk_at "ws1"
      refine ws_if ?_
      walk_at "go"
      refine ⟨by omega, hw, ?_⟩
      have fx := okT_fit (htx.ok (by decide))
      refine r2_neD fx fx ?_
      rw [L3.eq_self fx]
      refine ⟨_, rfl, itF rfl ?_⟩
      walk_at "go"
      refine ⟨htx.ok (by decide), htx.rows (by decide), hb1, hb2, ?_⟩
      rw [hev]
      walk_at "go"
      refine r2_own ⟨es, rfl, hw, true, rfl, ?_⟩
      refine ⟨_, rfl, itF rfl ?_⟩
      walk_at "go"
      refine ⟨htx.ok (by decide), htx.rows (by decide), hb1, hb2, ?_⟩
      rw [hev]
      walk_at "go"
      refine r2_own ⟨es, rfl, hw, true, rfl, ?_⟩
      refine ⟨_, rfl, itF rfl ?_⟩
      walk_at "ws1"
      walk_at "ws1"
      refine ws_if ?_
      refine wt_B (we_op (wf_we (wf_map (evLo CE) (fun _ => true) (wi_own ?_))))
      walk_at "go"
      refine ⟨htx.ok (by decide), htx.rows (by decide), hb1, hb2, ?_⟩
      rw [hev]
      refine ⟨_, _, rfl, rfl, by rw [List.length_map]; omega, fun d hd m => ?_, ?_⟩
      · obtain ⟨e, he, rfl⟩ := List.mem_map.mp hd
        walk_at "go"
        refine ⟨rfl, rfl, fun _ => ?_⟩
        walk_at "go"
        refine we_fld TE.cl TE.n1 ?_
        walk_at "go"
        refine we_fld TE.cl TE.n2 ?_
        walk_at "go"
        refine we_fld TE.cl TE.n3 ?_
        walk_at "go"
        refine we_fld TE.cl TE.n4 ?_
        walk_at "we1"
        refine ⟨_, rfl, _, rfl, ?_⟩
        refine wa_nil (rc_list rfl ?_)
        refine wa_nil ⟨Nat.le_of_ble_eq_true rfl, rfl, ?_⟩
        rfl
      rw [filt_all, List.map_map]
      have e1 : es.map (evLo CE ∘ evD CE) = es.map evL := List.map_congr_left fun e _ => rfl
      rw [e1]
      walk_at "go"
      have fl := fit_evL hw
      refine r2_neD fl fl ?_
      rw [L3.eq_self fl]
      refine ⟨_, rfl, itF rfl ?_⟩
      walk_at "ws1"
      walk_at "ws1"
      refine ws_for ?_
      walk_at "go"
      refine ⟨by omega, by omega, fun i m ρ => m ≤ n1 + 10 * i ∧ ∃ x5 x6 x7, ρ = [.un, .val (.adr b), .val (.lst (es.map evL)), .val (ordD CO CE es), .val (.str (textT es)), x5, x6, x7], ⟨Nat.le_refl _, _, _, _, rfl⟩, ?_, ?_⟩
      · rintro i m ρ1 d hd ⟨hm, x5, x6, x7, rfl⟩
        obtain ⟨hi, rfl⟩ := rangeD_get hd
        have hi6 : i < 6 := hi
        walk_at "go"
        walk_at "ws1"
        walk_at "ws1"
        walk_at "go"
        refine ⟨b, q, 0, _, rfl, rfl, htx, by decide, by omega, fun z1 n2 hz1 hn2 => ?_⟩
        walk_at "ws1"
        refine ws_if ?_
        walk_at "go"
        refine ⟨hz1.ok (by decide), hz1.rows (by decide), ?_⟩
        refine ⟨_, rfl, itF rfl ?_⟩
        walk_at "ws1"
        refine ws_if ?_
        walk_at "go"
        refine ⟨b, q, 3, rfl, rfl, by decide, by decide, by omega, fun r h0 h4 => ?_⟩
        walk_at "go"
        refine dec2 (fun h5 => ?_) (fun h5 => ?_)
        · walk_at "go"
          refine ⟨b, q, 1, _, rfl, rfl, hz1, by decide, by omega, fun z2 n3 hz2 hn3 => ?_⟩
          refine wa_nil ⟨z2, rfl, hz2.ok (by decide), hz2.rows (by decide), ?_⟩
          refine ⟨_, rfl, itF rfl ?_⟩
          walk_at "ws1"
          exact ⟨by omega, x5, _, _, rfl⟩
        · refine itF rfl ?_
          walk_at "ws1"
          exact ⟨by omega, x5, _, _, rfl⟩
      · rintro m ρ1 ⟨hm, x5, x6, x7, rfl⟩
        walk_at "ws1"
        walk_at "go"
        rfl

end
end Toy
namespace Toy
open PySem L2 L3
theorem all_mk {l : PySem.W.OpenLaw} {w : World} {K : PySem.W.Frag} {h : Heap} {mg : Str → Option Value} {fa : Addr} (X : K.In h) (G : h.Ns mainGlobals mg) (hfa : mg "law" = some (.ref fa))
    {C_Event : Addr}
    {f4 : Addr}
    {f5 : Addr}
    {C_Order : Addr}
    {f7 : Addr}
    {f8 : Addr}
    {f9 : Addr}
    {C_AskedError : Addr}
    {C_BadOrder f0 : Addr} {nm_BadOrder q_BadOrder : Str} {N_BadOrder : Addr} {bs_BadOrder : List Value} {sn_BadOrder : List Str} {sub_BadOrder : List Value} {ab_BadOrder : Bool} {col_BadOrder : Option Bool} {dd_BadOrder : Option Addr} {m0_BadOrder m1_BadOrder m2_BadOrder m3_BadOrder m5_BadOrder : Option Value}
    {C_BadText f1 : Addr} {nm_BadText q_BadText : Str} {N_BadText : Addr} {bs_BadText : List Value} {sn_BadText : List Str} {sub_BadText : List Value} {ab_BadText : Bool} {col_BadText : Option Bool} {dd_BadText : Option Addr} {m0_BadText m1_BadText m2_BadText m3_BadText m5_BadText : Option Value}
    {od0 an0 : Option Addr} {sl0 : Array (Option Value)} {oc0 kV0 dc0 pm0 cd0 ct0 : Value}
    {od1 an1 : Option Addr} {sl1 : Array (Option Value)} {oc1 kV1 dc1 pm1 cd1 ct1 : Value}
    {f2 : Addr}
    {od2 an2 : Option Addr} {sl2 : Array (Option Value)} {oc2 kV2 dc2 pm2 cd2 ct2 : Value}
    {f3 : Addr}
    {od3 an3 : Option Addr} {sl3 : Array (Option Value)} {oc3 kV3 dc3 pm3 cd3 ct3 : Value}
    {od4 an4 : Option Addr} {sl4 : Array (Option Value)} {oc4 kV4 dc4 pm4 cd4 ct4 : Value}
    {TT4 : Addr} {odT4 : Option Addr} {slT4 : Array (Option Value)} {ocT4 : Value} {nT4 : Nat} {E0 : Addr}
    {od5 an5 : Option Addr} {sl5 : Array (Option Value)} {oc5 kV5 dc5 pm5 cd5 ct5 : Value}
    {f6 : Addr}
    {od6 an6 : Option Addr} {sl6 : Array (Option Value)} {oc6 kV6 dc6 pm6 cd6 ct6 : Value}
    {od7 an7 : Option Addr} {sl7 : Array (Option Value)} {oc7 kV7 dc7 pm7 cd7 ct7 : Value}
    {od8 an8 : Option Addr} {sl8 : Array (Option Value)} {oc8 kV8 dc8 pm8 cd8 ct8 : Value}
    {od9 an9 : Option Addr} {sl9 : Array (Option Value)} {oc9 kV9 dc9 pm9 cd9 ct9 : Value}
    {f10 : Addr}
    {od10 an10 : Option Addr} {sl10 : Array (Option Value)} {oc10 kV10 dc10 pm10 cd10 ct10 : Value}
    {f11 : Addr}
    {od11 an11 : Option Addr} {sl11 : Array (Option Value)} {oc11 kV11 dc11 pm11 cd11 ct11 : Value}
    {f12 : Addr}
    {od12 an12 : Option Addr} {sl12 : Array (Option Value)} {oc12 kV12 dc12 pm12 cd12 ct12 : Value}
    {f13 : Addr}
    {od13 an13 : Option Addr} {sl13 : Array (Option Value)} {oc13 kV13 dc13 pm13 cd13 ct13 : Value}
    {f14 : Addr}
    {od14 an14 : Option Addr} {sl14 : Array (Option Value)} {oc14 kV14 dc14 pm14 cd14 ct14 : Value}
    {f15 : Addr}
    {od15 an15 : Option Addr} {sl15 : Array (Option Value)} {oc15 kV15 dc15 pm15 cd15 ct15 : Value}
    {f16 : Addr}
    {od16 an16 : Option Addr} {sl16 : Array (Option Value)} {oc16 kV16 dc16 pm16 cd16 ct16 : Value}
    {f17 : Addr}
    {od17 an17 : Option Addr} {sl17 : Array (Option Value)} {oc17 kV17 dc17 pm17 cd17 ct17 : Value}
    {f18 : Addr}
    {od18 an18 : Option Addr} {sl18 : Array (Option Value)} {oc18 kV18 dc18 pm18 cd18 ct18 : Value}
    {f19 : Addr}
    {od19 an19 : Option Addr} {sl19 : Array (Option Value)} {oc19 kV19 dc19 pm19 cd19 ct19 : Value}
    {f20 : Addr}
    {od20 an20 : Option Addr} {sl20 : Array (Option Value)} {oc20 kV20 dc20 pm20 cd20 ct20 : Value}
    {f21 : Addr}
    {od21 an21 : Option Addr} {sl21 : Array (Option Value)} {oc21 kV21 dc21 pm21 cd21 ct21 : Value}
    {f22 : Addr}
    {od22 an22 : Option Addr} {sl22 : Array (Option Value)} {oc22 kV22 dc22 pm22 cd22 ct22 : Value}
    {f23 : Addr}
    {od23 an23 : Option Addr} {sl23 : Array (Option Value)} {oc23 kV23 dc23 pm23 cd23 ct23 : Value}
    {f24 : Addr}
    {od24 an24 : Option Addr} {sl24 : Array (Option Value)} {oc24 kV24 dc24 pm24 cd24 ct24 : Value}
    {f25 : Addr}
    {od25 an25 : Option Addr} {sl25 : Array (Option Value)} {oc25 kV25 dc25 pm25 cd25 ct25 : Value}
    {tL tS tE tN tM tq ta : Tok}
    {aK : Addr}
    {odK : Option Addr}
    {nK : Nat}
    {slK : Array (Option Value)}
    (aC_Event : PySem.W.nsIn K mainGlobals "Event" = some (some (.ref C_Event)))
    (pg_Event : PySem.W.plainGet K C_Event Str.empty = true)
    (hd_Event : PySem.W.hasDictIn K C_Event = true)
    (po_Event : PySem.W.plainOver K C_Event = true)
    (sa_Event : PySem.W.findIn K (.ref C_Event) "__setattr__" = some (some (.builtin "object.__setattr__")))
    (na_Event_name : PySem.W.findIn K (.ref C_Event) "name" = some none)
    (na_Event_end : PySem.W.findIn K (.ref C_Event) "end" = some none)
    (na_Event_kind : PySem.W.findIn K (.ref C_Event) "kind" = some none)
    (na_Event_needs : PySem.W.findIn K (.ref C_Event) "needs" = some none)
    (mk_Event : PySem.W.makesIn K C_Event = true)
    (in_Event : PySem.W.findIn K (.ref C_Event) "__init__" = some (some (.ref f4)))
    (fn_Event : PySem.W.isFn K (.ref f4) = true)
    (kp_Event : PySem.W.keepIn K (.ref C_Event) = true)
    (oe_Event : PySem.W.findIn K (.ref C_Event) "__eq__" = some (some (.ref f5)))
    (of_Event : PySem.W.isFn K (.ref f5) = true)
    (on_Event : PySem.W.findIn K (.ref C_Event) "__ne__" = some (some (.builtin "object.__ne__")))
    (om_Event : PySem.W.mroIn K C_Event (.type "object") = some true)
    (i1_Event : PySem.W.findIn K (.ref C_Event) "__class__" = some (some (.builtin "object.__class__")))
    (aC_Order : PySem.W.nsIn K mainGlobals "Order" = some (some (.ref C_Order)))
    (pg_Order : PySem.W.plainGet K C_Order Str.empty = true)
    (hd_Order : PySem.W.hasDictIn K C_Order = true)
    (po_Order : PySem.W.plainOver K C_Order = true)
    (sa_Order : PySem.W.findIn K (.ref C_Order) "__setattr__" = some (some (.builtin "object.__setattr__")))
    (na_Order_events : PySem.W.findIn K (.ref C_Order) "events" = some none)
    (mk_Order : PySem.W.makesIn K C_Order = true)
    (in_Order : PySem.W.findIn K (.ref C_Order) "__init__" = some (some (.ref f7)))
    (fn_Order : PySem.W.isFn K (.ref f7) = true)
    (kp_Order : PySem.W.keepIn K (.ref C_Order) = true)
    (oe_Order : PySem.W.findIn K (.ref C_Order) "__eq__" = some (some (.ref f8)))
    (of_Order : PySem.W.isFn K (.ref f8) = true)
    (on_Order : PySem.W.findIn K (.ref C_Order) "__ne__" = some (some (.builtin "object.__ne__")))
    (om_Order : PySem.W.mroIn K C_Order (.type "object") = some true)
    (it_Order : PySem.W.findIn K (.ref C_Order) "__iter__" = some (some (.ref f9)))
    (itf_Order : PySem.W.isFn K (.ref f9) = true)
    (i1_Order : PySem.W.findIn K (.ref C_Order) "__class__" = some (some (.builtin "object.__class__")))
    (i2_ : PySem.W.specialIn K (.builtin "object.__class__") "__get__" = some (some (.builtin "getset_descriptor.__get__")))
    (i3_ : PySem.W.takesIn K (.builtin "object.__class__") = some true)
    (aC_AskedError : PySem.W.nsIn K mainGlobals "AskedError" = some (some (.ref C_AskedError)))
    (rd_AskedError : PySem.W.readsIn K C_AskedError (.type "type") = true)
    (ga_AskedError : PySem.W.specialIn K (.ref C_AskedError) "__getattribute__" = some (some (.builtin "type.__getattribute__")))
    (vi_AskedError : PySem.W.findCls K (.ref C_AskedError) (.type "type") "__init__" = some (.val (.builtin "ValueError.__init__")))
    (aC_BadOrder : PySem.W.nsIn K mainGlobals "BadOrder" = some (some (.ref C_BadOrder)))
    (xL_BadOrder : K.lookup C_BadOrder = some (excClassObj nm_BadOrder q_BadOrder C_BadOrder N_BadOrder bs_BadOrder [.ref C_AskedError, .type "ValueError", .type "Exception", .type "BaseException", .type "object"] true sn_BadOrder sub_BadOrder ab_BadOrder col_BadOrder dd_BadOrder m0_BadOrder m1_BadOrder m2_BadOrder m3_BadOrder m5_BadOrder "ValueError.__new__"))
    (sa_BadOrder : PySem.W.findIn K (.ref C_BadOrder) "__setattr__" = some (some (.builtin "object.__setattr__")))
    (xa_BadOrder : PySem.W.findIn K (.ref C_BadOrder) "__getattribute__" = some (some (.builtin "BaseException.__getattribute__")))
    (xg_BadOrder : PySem.W.findIn K (.ref C_BadOrder) "__getattr__" = some none)
    (na_BadOrder_what : PySem.W.findIn K (.ref C_BadOrder) "what" = some none)
    (na_BadOrder_name : PySem.W.findIn K (.ref C_BadOrder) "name" = some none)
    (in_BadOrder : PySem.W.findIn K (.ref C_BadOrder) "__init__" = some (some (.ref f0)))
    (ti_BadOrder : PySem.W.typeIn K (.ref f0) = some (.type "function"))
    (kp_BadOrder : PySem.W.keepIn K (.ref C_BadOrder) = true)
    (ex_BadOrder : PySem.W.subIn K (.ref C_BadOrder) (.type "BaseException") = some true)
    (ty_BadOrder : PySem.W.typeIn K (.ref C_BadOrder) = some (.type "type"))
    (hd_BadOrder : PySem.W.hasDictIn K C_BadOrder = true)
    (ic_BadOrder : PySem.W.isClsIn K C_BadOrder = true)
    (sc_BadOrder : PySem.W.subIn K (.ref C_BadOrder) (.ref C_BadOrder) = some true)
    (aC_BadText : PySem.W.nsIn K mainGlobals "BadText" = some (some (.ref C_BadText)))
    (xL_BadText : K.lookup C_BadText = some (excClassObj nm_BadText q_BadText C_BadText N_BadText bs_BadText [.ref C_AskedError, .type "ValueError", .type "Exception", .type "BaseException", .type "object"] true sn_BadText sub_BadText ab_BadText col_BadText dd_BadText m0_BadText m1_BadText m2_BadText m3_BadText m5_BadText "ValueError.__new__"))
    (sa_BadText : PySem.W.findIn K (.ref C_BadText) "__setattr__" = some (some (.builtin "object.__setattr__")))
    (xa_BadText : PySem.W.findIn K (.ref C_BadText) "__getattribute__" = some (some (.builtin "BaseException.__getattribute__")))
    (xg_BadText : PySem.W.findIn K (.ref C_BadText) "__getattr__" = some none)
    (na_BadText_row : PySem.W.findIn K (.ref C_BadText) "row" = some none)
    (in_BadText : PySem.W.findIn K (.ref C_BadText) "__init__" = some (some (.ref f1)))
    (ti_BadText : PySem.W.typeIn K (.ref f1) = some (.type "function"))
    (kp_BadText : PySem.W.keepIn K (.ref C_BadText) = true)
    (ex_BadText : PySem.W.subIn K (.ref C_BadText) (.type "BaseException") = some true)
    (ty_BadText : PySem.W.typeIn K (.ref C_BadText) = some (.type "type"))
    (hd_BadText : PySem.W.hasDictIn K C_BadText = true)
    (ic_BadText : PySem.W.isClsIn K C_BadText = true)
    (sc_BadText : PySem.W.subIn K (.ref C_BadText) (.ref C_BadText) = some true)
    (sn_BadOrder_BadText : PySem.W.subIn K (.ref C_BadOrder) (.ref C_BadText) = some false)
    (l0 : K.lookup f0 = some ⟨oc0, od0, .func (PySem.W.fnOf "__init__" "BadOrder.__init__" (defArgs s_BadOrder___init) (defBody s_BadOrder___init) (defScope s_BadOrder___init) .none kV0 dc0 pm0 an0 cd0 ct0), sl0⟩)
    (c0 : PySem.W.codeIn K cd0 "BadOrder.__init__" = true)
    (k0 : PySem.W.keepIn K (.ref f0) = true)
    (l1 : K.lookup f1 = some ⟨oc1, od1, .func (PySem.W.fnOf "__init__" "BadText.__init__" (defArgs s_BadText___init) (defBody s_BadText___init) (defScope s_BadText___init) .none kV1 dc1 pm1 an1 cd1 ct1), sl1⟩)
    (c1 : PySem.W.codeIn K cd1 "BadText.__init__" = true)
    (k1 : PySem.W.keepIn K (.ref f1) = true)
    (a2 : PySem.W.nsIn K mainGlobals "is_whole" = some (some (.ref f2)))
    (l2 : K.lookup f2 = some ⟨oc2, od2, .func (PySem.W.fnOf "is_whole" "is_whole" (defArgs s_is_whole) (defBody s_is_whole) (defScope s_is_whole) .none kV2 dc2 pm2 an2 cd2 ct2), sl2⟩)
    (c2 : PySem.W.codeIn K cd2 "is_whole" = true)
    (k2 : PySem.W.keepIn K (.ref f2) = true)
    (a3 : PySem.W.nsIn K mainGlobals "is_name" = some (some (.ref f3)))
    (l3 : K.lookup f3 = some ⟨oc3, od3, .func (PySem.W.fnOf "is_name" "is_name" (defArgs s_is_name) (defBody s_is_name) (defScope s_is_name) .none kV3 dc3 pm3 an3 cd3 ct3), sl3⟩)
    (c3 : PySem.W.codeIn K cd3 "is_name" = true)
    (k3 : PySem.W.keepIn K (.ref f3) = true)
    (l4 : K.lookup f4 = some ⟨oc4, od4, .func (PySem.W.fnOf "__init__" "Event.__init__" (defArgs s_Event___init) (defBody s_Event___init) (defScope s_Event___init) (.ref TT4) kV4 dc4 pm4 an4 cd4 ct4), sl4⟩)
    (c4 : PySem.W.codeIn K cd4 "Event.__init__" = true)
    (k4 : PySem.W.keepIn K (.ref f4) = true)
    (lT4 : K.lookup TT4 = some ⟨ocT4, odT4, .seq #[.ref E0] nT4, slT4⟩)
    (l5 : K.lookup f5 = some ⟨oc5, od5, .func (PySem.W.fnOf "__eq__" "Event.__eq__" (defArgs s_Event___eq) (defBody s_Event___eq) (defScope s_Event___eq) .none kV5 dc5 pm5 an5 cd5 ct5), sl5⟩)
    (c5 : PySem.W.codeIn K cd5 "Event.__eq__" = true)
    (k5 : PySem.W.keepIn K (.ref f5) = true)
    (a6 : PySem.W.nsIn K mainGlobals "event_fault" = some (some (.ref f6)))
    (l6 : K.lookup f6 = some ⟨oc6, od6, .func (PySem.W.fnOf "event_fault" "event_fault" (defArgs s_event_fault) (defBody s_event_fault) (defScope s_event_fault) .none kV6 dc6 pm6 an6 cd6 ct6), sl6⟩)
    (c6 : PySem.W.codeIn K cd6 "event_fault" = true)
    (k6 : PySem.W.keepIn K (.ref f6) = true)
    (l7 : K.lookup f7 = some ⟨oc7, od7, .func (PySem.W.fnOf "__init__" "Order.__init__" (defArgs s_Order___init) (defBody s_Order___init) (defScope s_Order___init) .none kV7 dc7 pm7 an7 cd7 ct7), sl7⟩)
    (c7 : PySem.W.codeIn K cd7 "Order.__init__" = true)
    (k7 : PySem.W.keepIn K (.ref f7) = true)
    (l8 : K.lookup f8 = some ⟨oc8, od8, .func (PySem.W.fnOf "__eq__" "Order.__eq__" (defArgs s_Order___eq) (defBody s_Order___eq) (defScope s_Order___eq) .none kV8 dc8 pm8 an8 cd8 ct8), sl8⟩)
    (c8 : PySem.W.codeIn K cd8 "Order.__eq__" = true)
    (k8 : PySem.W.keepIn K (.ref f8) = true)
    (l9 : K.lookup f9 = some ⟨oc9, od9, .func (PySem.W.fnOf "__iter__" "Order.__iter__" (defArgs s_Order___iter) (defBody s_Order___iter) (defScope s_Order___iter) .none kV9 dc9 pm9 an9 cd9 ct9), sl9⟩)
    (c9 : PySem.W.codeIn K cd9 "Order.__iter__" = true)
    (k9 : PySem.W.keepIn K (.ref f9) = true)
    (a10 : PySem.W.nsIn K mainGlobals "event_row" = some (some (.ref f10)))
    (l10 : K.lookup f10 = some ⟨oc10, od10, .func (PySem.W.fnOf "event_row" "event_row" (defArgs s_event_row) (defBody s_event_row) (defScope s_event_row) .none kV10 dc10 pm10 an10 cd10 ct10), sl10⟩)
    (c10 : PySem.W.codeIn K cd10 "event_row" = true)
    (k10 : PySem.W.keepIn K (.ref f10) = true)
    (a11 : PySem.W.nsIn K mainGlobals "order_text" = some (some (.ref f11)))
    (l11 : K.lookup f11 = some ⟨oc11, od11, .func (PySem.W.fnOf "order_text" "order_text" (defArgs s_order_text) (defBody s_order_text) (defScope s_order_text) .none kV11 dc11 pm11 an11 cd11 ct11), sl11⟩)
    (c11 : PySem.W.codeIn K cd11 "order_text" = true)
    (k11 : PySem.W.keepIn K (.ref f11) = true)
    (a12 : PySem.W.nsIn K mainGlobals "parse_event" = some (some (.ref f12)))
    (l12 : K.lookup f12 = some ⟨oc12, od12, .func (PySem.W.fnOf "parse_event" "parse_event" (defArgs s_parse_event) (defBody s_parse_event) (defScope s_parse_event) .none kV12 dc12 pm12 an12 cd12 ct12), sl12⟩)
    (c12 : PySem.W.codeIn K cd12 "parse_event" = true)
    (k12 : PySem.W.keepIn K (.ref f12) = true)
    (a13 : PySem.W.nsIn K mainGlobals "parse_order" = some (some (.ref f13)))
    (l13 : K.lookup f13 = some ⟨oc13, od13, .func (PySem.W.fnOf "parse_order" "parse_order" (defArgs s_parse_order) (defBody s_parse_order) (defScope s_parse_order) .none kV13 dc13 pm13 an13 cd13 ct13), sl13⟩)
    (c13 : PySem.W.codeIn K cd13 "parse_order" = true)
    (k13 : PySem.W.keepIn K (.ref f13) = true)
    (a14 : PySem.W.nsIn K mainGlobals "_law_bag" = some (some (.ref f14)))
    (l14 : K.lookup f14 = some ⟨oc14, od14, .func (PySem.W.fnOf "_law_bag" "_law_bag" (defArgs s_law_bag) (defBody s_law_bag) (defScope s_law_bag) .none kV14 dc14 pm14 an14 cd14 ct14), sl14⟩)
    (c14 : PySem.W.codeIn K cd14 "_law_bag" = true)
    (k14 : PySem.W.keepIn K (.ref f14) = true)
    (a15 : PySem.W.nsIn K mainGlobals "_law_draw" = some (some (.ref f15)))
    (l15 : K.lookup f15 = some ⟨oc15, od15, .func (PySem.W.fnOf "_law_draw" "_law_draw" (defArgs s_law_draw) (defBody s_law_draw) (defScope s_law_draw) .none kV15 dc15 pm15 an15 cd15 ct15), sl15⟩)
    (c15 : PySem.W.codeIn K cd15 "_law_draw" = true)
    (k15 : PySem.W.keepIn K (.ref f15) = true)
    (a16 : PySem.W.nsIn K mainGlobals "_law_names" = some (some (.ref f16)))
    (l16 : K.lookup f16 = some ⟨oc16, od16, .func (PySem.W.fnOf "_law_names" "_law_names" (defArgs s_law_names) (defBody s_law_names) (defScope s_law_names) .none kV16 dc16 pm16 an16 cd16 ct16), sl16⟩)
    (c16 : PySem.W.codeIn K cd16 "_law_names" = true)
    (k16 : PySem.W.keepIn K (.ref f16) = true)
    (a17 : PySem.W.nsIn K mainGlobals "_law_drawn_events" = some (some (.ref f17)))
    (l17 : K.lookup f17 = some ⟨oc17, od17, .func (PySem.W.fnOf "_law_drawn_events" "_law_drawn_events" (defArgs s_law_drawn_events) (defBody s_law_drawn_events) (defScope s_law_drawn_events) .none kV17 dc17 pm17 an17 cd17 ct17), sl17⟩)
    (c17 : PySem.W.codeIn K cd17 "_law_drawn_events" = true)
    (k17 : PySem.W.keepIn K (.ref f17) = true)
    (a18 : PySem.W.nsIn K mainGlobals "_law_text" = some (some (.ref f18)))
    (l18 : K.lookup f18 = some ⟨oc18, od18, .func (PySem.W.fnOf "_law_text" "_law_text" (defArgs s_law_text) (defBody s_law_text) (defScope s_law_text) .none kV18 dc18 pm18 an18 cd18 ct18), sl18⟩)
    (c18 : PySem.W.codeIn K cd18 "_law_text" = true)
    (k18 : PySem.W.keepIn K (.ref f18) = true)
    (a19 : PySem.W.nsIn K mainGlobals "_law_is_name" = some (some (.ref f19)))
    (l19 : K.lookup f19 = some ⟨oc19, od19, .func (PySem.W.fnOf "_law_is_name" "_law_is_name" (defArgs s_law_is_name) (defBody s_law_is_name) (defScope s_law_is_name) .none kV19 dc19 pm19 an19 cd19 ct19), sl19⟩)
    (c19 : PySem.W.codeIn K cd19 "_law_is_name" = true)
    (k19 : PySem.W.keepIn K (.ref f19) = true)
    (a20 : PySem.W.nsIn K mainGlobals "_law_read" = some (some (.ref f20)))
    (l20 : K.lookup f20 = some ⟨oc20, od20, .func (PySem.W.fnOf "_law_read" "_law_read" (defArgs s_law_read) (defBody s_law_read) (defScope s_law_read) .none kV20 dc20 pm20 an20 cd20 ct20), sl20⟩)
    (c20 : PySem.W.codeIn K cd20 "_law_read" = true)
    (k20 : PySem.W.keepIn K (.ref f20) = true)
    (a21 : PySem.W.nsIn K mainGlobals "_law_spoiled" = some (some (.ref f21)))
    (l21 : K.lookup f21 = some ⟨oc21, od21, .func (PySem.W.fnOf "_law_spoiled" "_law_spoiled" (defArgs s_law_spoiled) (defBody s_law_spoiled) (defScope s_law_spoiled) .none kV21 dc21 pm21 an21 cd21 ct21), sl21⟩)
    (c21 : PySem.W.codeIn K cd21 "_law_spoiled" = true)
    (k21 : PySem.W.keepIn K (.ref f21) = true)
    (a22 : PySem.W.nsIn K mainGlobals "_law_made" = some (some (.ref f22)))
    (l22 : K.lookup f22 = some ⟨oc22, od22, .func (PySem.W.fnOf "_law_made" "_law_made" (defArgs s_law_made) (defBody s_law_made) (defScope s_law_made) .none kV22 dc22 pm22 an22 cd22 ct22), sl22⟩)
    (c22 : PySem.W.codeIn K cd22 "_law_made" = true)
    (k22 : PySem.W.keepIn K (.ref f22) = true)
    (a23 : PySem.W.nsIn K mainGlobals "_law_back_right" = some (some (.ref f23)))
    (l23 : K.lookup f23 = some ⟨oc23, od23, .func (PySem.W.fnOf "_law_back_right" "_law_back_right" (defArgs s_law_back_right) (defBody s_law_back_right) (defScope s_law_back_right) .none kV23 dc23 pm23 an23 cd23 ct23), sl23⟩)
    (c23 : PySem.W.codeIn K cd23 "_law_back_right" = true)
    (k23 : PySem.W.keepIn K (.ref f23) = true)
    (a24 : PySem.W.nsIn K mainGlobals "_law_no_text" = some (some (.ref f24)))
    (l24 : K.lookup f24 = some ⟨oc24, od24, .func (PySem.W.fnOf "_law_no_text" "_law_no_text" (defArgs s_law_no_text) (defBody s_law_no_text) (defScope s_law_no_text) .none kV24 dc24 pm24 an24 cd24 ct24), sl24⟩)
    (c24 : PySem.W.codeIn K cd24 "_law_no_text" = true)
    (k24 : PySem.W.keepIn K (.ref f24) = true)
    (a25 : PySem.W.nsIn K mainGlobals "law" = some (some (.ref f25)))
    (l25 : K.lookup f25 = some ⟨oc25, od25, .func (PySem.W.fnOf "law" "law" (defArgs s_law) (defBody s_law) (defScope s_law) .none kV25 dc25 pm25 an25 cd25 ct25), sl25⟩)
    (c25 : PySem.W.codeIn K cd25 "law" = true)
    (k25 : PySem.W.keepIn K (.ref f25) = true)
    (zLETTERS : PySem.W.nsIn K mainGlobals "LETTERS" = some (some (.str letters tL)))
    (zSIGNS : PySem.W.nsIn K mainGlobals "SIGNS" = some (some (.str signs36 tS)))
    (zENDS : PySem.W.nsIn K mainGlobals "MOST_ENDS" = some (some (.int 5 tE)))
    (zNEEDS : PySem.W.nsIn K mainGlobals "MOST_NEEDS" = some (some (.int 3 tN)))
    (zEVENTS : PySem.W.nsIn K mainGlobals "MOST_EVENTS" = some (some (.int 12 tM)))
    (zKINDS : PySem.W.nsIn K mainGlobals "KINDS" = some (some (.ref aK)))
    (lK : K.lookup aK = some ⟨.type "tuple", odK, .seq #[.str "query" tq, .str "action" ta] nK, slK⟩)
    (z2_iter : PySem.W.nsIn K mainGlobals "iter" = some none)
    (z_len : PySem.W.nsIn K mainGlobals "len" = some none)
    (z_abs : PySem.W.nsIn K mainGlobals "abs" = some none)
    (z_sum : PySem.W.nsIn K mainGlobals "sum" = some none)
    (z_max : PySem.W.nsIn K mainGlobals "max" = some none)
    (z_min : PySem.W.nsIn K mainGlobals "min" = some none)
    (z_all : PySem.W.nsIn K mainGlobals "all" = some none)
    (z_any : PySem.W.nsIn K mainGlobals "any" = some none)
    (z_sorted : PySem.W.nsIn K mainGlobals "sorted" = some none)
    (z_isinstance : PySem.W.nsIn K mainGlobals "isinstance" = some none)
    (z_int : PySem.W.nsIn K mainGlobals "int" = some none)
    (z_bool : PySem.W.nsIn K mainGlobals "bool" = some none)
    (z_str : PySem.W.nsIn K mainGlobals "str" = some none)
    (z_list : PySem.W.nsIn K mainGlobals "list" = some none)
    (z_tuple : PySem.W.nsIn K mainGlobals "tuple" = some none)
    (z_range : PySem.W.nsIn K mainGlobals "range" = some none)
    (z_enumerate : PySem.W.nsIn K mainGlobals "enumerate" = some none)
    (z_dict : PySem.W.nsIn K mainGlobals "dict" = some none)
    : ∃ fd : FuncData, (∀ (s : Shared) (v : Value), BindsTo s fd ⟨[v], []⟩ [("script", v)]) ∧ ∀ base : Heap, K.In base → base.Ns mainGlobals mg → FnOk l.prog w K mg base CX0 7 fa fd ["script"] (spLaw K) := by
  have e := hfa.symm.trans (PySem.W.mg_of X G a25)
  cases e
  have T : Txt mg := ⟨PySem.W.mg_none_of X G z_len, PySem.W.mg_none_of X G z_abs, PySem.W.mg_none_of X G z_sum, PySem.W.mg_none_of X G z_max, PySem.W.mg_none_of X G z_min, PySem.W.mg_none_of X G z_all, PySem.W.mg_none_of X G z_any, PySem.W.mg_none_of X G z_sorted, PySem.W.mg_none_of X G z_isinstance, PySem.W.mg_none_of X G z_int, PySem.W.mg_none_of X G z_bool, PySem.W.mg_none_of X G z_str, PySem.W.mg_none_of X G z_list, PySem.W.mg_none_of X G z_tuple, PySem.W.mg_none_of X G z_range, PySem.W.mg_none_of X G z_enumerate, PySem.W.mg_none_of X G z_dict⟩
  refine ⟨PySem.W.fnOf "law" "law" (defArgs s_law) (defBody s_law) (defScope s_law) .none kV25 dc25 pm25 an25 cd25 ct25, fun s v => .of_eq rfl, fun base _ _ => ?_⟩
  have T2 : Txt2 mg tL tS := ⟨T, PySem.W.mg_of X G zLETTERS, PySem.W.mg_of X G zSIGNS⟩
  have T3 : Txt3 K mg tE tN aK := ⟨T, PySem.W.mg_of X G zENDS, PySem.W.mg_of X G zNEEDS, PySem.W.mg_of X G zKINDS, fun H => .tup (.inr ⟨_, _, _, lK, rfl, rfl, Nat.le_of_ble_eq_true rfl, (show Vals [V.str "query", V.str "action"] _ from .cons ⟨_, rfl⟩ (.cons ⟨_, rfl⟩ .nil))⟩) (.cons (.str _) (.cons (.str _) .nil))⟩
  have T4 : Txt4 mg tM := ⟨T, PySem.W.mg_of X G zEVENTS⟩
  have b_iter := PySem.W.mg_none_of X G z2_iter
  have E_no_BadOrder_BadText := exm_no ex_BadText ic_BadText ty_BadText sn_BadOrder_BadText
  have Cl_Event : Cls K C_Event := ⟨pg_Event, hd_Event, po_Event, sa_Event⟩
  have TI_Event : IsaT K C_Event := ⟨i1_Event, i2_, i3_, om_Event⟩
  have gC_Event := PySem.W.mg_of X G aC_Event
  have TE : EvT K C_Event := ⟨Cl_Event, na_Event_name, na_Event_end, na_Event_kind, na_Event_needs⟩
  have Cl_Order : Cls K C_Order := ⟨pg_Order, hd_Order, po_Order, sa_Order⟩
  have TI_Order : IsaT K C_Order := ⟨i1_Order, i2_, i3_, om_Order⟩
  have gC_Order := PySem.W.mg_of X G aC_Order
  have TO : OrT K C_Order := ⟨Cl_Order, na_Order_events⟩
  have A_AskedError : AskC K C_AskedError ∧ mg "AskedError" = some (.ref C_AskedError) := ⟨⟨rd_AskedError, ga_AskedError, vi_AskedError⟩, PySem.W.mg_of X G aC_AskedError⟩
  have F0 := fun_mk (st := s_BadOrder___init) l0 c0 k0
  have b0 := F0.binds (ps := ["self", "what", "name"]) fun _ _ _ _ _ _ us hl => match us, hl with | [_, _, _], _ => rfl
  have To_BadOrder : OexC K C_BadOrder := ⟨⟨nm_BadOrder, q_BadOrder, N_BadOrder, bs_BadOrder, _, sn_BadOrder, sub_BadOrder, ab_BadOrder, col_BadOrder, dd_BadOrder, m0_BadOrder, m1_BadOrder, m2_BadOrder, m3_BadOrder, m5_BadOrder, xL_BadOrder, (show PySem.HandSPX.refsVE [.type "ValueError", .type "Exception", .type "BaseException", .type "object"] = true by decide +kernel)⟩, sa_BadOrder, ex_BadOrder, ty_BadOrder, kp_BadOrder⟩
  let X_BadOrder : Xn l.prog w K mg base "BadOrder" ["what", "name"] := ⟨C_BadOrder, f0, _, ["self", "what", "name"], To_BadOrder, in_BadOrder, ti_BadOrder, ok_xorder F0 A_AskedError To_BadOrder na_BadOrder_what na_BadOrder_name, b0, PySem.W.mg_of X G aC_BadOrder, ⟨xa_BadOrder, xg_BadOrder, ex_BadOrder, hd_BadOrder⟩, (by simp only [List.forall_mem_cons]; exact ⟨na_BadOrder_what, na_BadOrder_name, fun _ h => nomatch h⟩), exm_self ex_BadOrder ic_BadOrder ty_BadOrder sc_BadOrder⟩
  have F1 := fun_mk (st := s_BadText___init) l1 c1 k1
  have b1 := F1.binds (ps := ["self", "row"]) fun _ _ _ _ _ _ us hl => match us, hl with | [_, _], _ => rfl
  have To_BadText : OexC K C_BadText := ⟨⟨nm_BadText, q_BadText, N_BadText, bs_BadText, _, sn_BadText, sub_BadText, ab_BadText, col_BadText, dd_BadText, m0_BadText, m1_BadText, m2_BadText, m3_BadText, m5_BadText, xL_BadText, (show PySem.HandSPX.refsVE [.type "ValueError", .type "Exception", .type "BaseException", .type "object"] = true by decide +kernel)⟩, sa_BadText, ex_BadText, ty_BadText, kp_BadText⟩
  let X_BadText : Xn l.prog w K mg base "BadText" ["row"] := ⟨C_BadText, f1, _, ["self", "row"], To_BadText, in_BadText, ti_BadText, ok_xtext F1 A_AskedError To_BadText na_BadText_row, b1, PySem.W.mg_of X G aC_BadText, ⟨xa_BadText, xg_BadText, ex_BadText, hd_BadText⟩, (by simp only [List.forall_mem_cons]; exact ⟨na_BadText_row, fun _ h => nomatch h⟩), exm_self ex_BadText ic_BadText ty_BadText sc_BadText⟩
  have F2 := fun_mk (st := s_is_whole) l2 c2 k2
  have b2 := F2.binds (ps := ["thing"]) fun _ _ _ _ _ _ us hl => match us, hl with | [_], _ => rfl
  let E_is_whole : Dn l.prog w K mg base "is_whole" 1 ["thing"] [] [] spWholeT := ⟨f2, _, ok_wholeT F2 T, PySem.W.mg_of X G a2, k2, b2, .nil⟩
  have F3 := fun_mk (st := s_is_name) l3 c3 k3
  have b3 := F3.binds (ps := ["thing"]) fun _ _ _ _ _ _ us hl => match us, hl with | [_], _ => rfl
  let E_is_name : Dn l.prog w K mg base "is_name" 1 ["thing"] [] [] spNameT := ⟨f3, _, ok_nameT F3 T2, PySem.W.mg_of X G a3, k3, b3, .nil⟩
  have F4 : FunD K "__init__" "Event.__init__" (defArgs s_Event___init) (defBody s_Event___init) (defScope s_Event___init) [.ref E0] [] f4 _ := ⟨⟨_, _, _, _, _, _, _, _, _, _, rfl, l4, c4, .inr ⟨by simp, TT4, _, [.ref E0], nT4, rfl, lT4, rfl, .cons rfl .nil⟩, .inl rfl⟩, k4⟩
  obtain ⟨dw4, hv4, b4⟩ := F4.binds1 (ps := ["self", "name", "end", "kind", "needs"]) 5 1 (by simp) rfl fun T kV doc pm an cdv ct us its h1 h2 => match us, its, h1, h2 with | [x0, x1, x2, x3, x4], [y0], _, _ => ⟨_, rfl, rfl⟩
  cases hv4
  let M_Event : Mn l.prog w K mg base "Event" 1 ["self", "name", "end", "kind", "needs"] [] [] spEvR := ⟨C_Event, f4, _, ⟨mk_Event, in_Event, fn_Event, kp_Event⟩, Cl_Event, ok_event F4 T TE, PySem.W.mg_of X G aC_Event, b4, .nil⟩
  have F5 := fun_mk (st := s_Event___eq) l5 c5 k5
  have b5 := F5.binds (ps := ["self", "other"]) fun _ _ _ _ _ _ us hl => match us, hl with | [_, _], _ => rfl
  let O_Event : On l.prog w K mg base C_Event 1 ["self", "other"] (spEqE C_Event) := ⟨f5, _, ⟨oe_Event, of_Event, on_Event, om_Event⟩, ok_eqE F5 T TE TI_Event gC_Event, b5⟩
  have F6 := fun_mk (st := s_event_fault) l6 c6 k6
  have b6 := F6.binds (ps := ["event", "elder"]) fun _ _ _ _ _ _ us hl => match us, hl with | [_, _], _ => rfl
  let E_event_fault : Dn l.prog w K mg base "event_fault" 2 ["event", "elder"] [] [] (spFaultX C_Event) := ⟨f6, _, ok_faultX F6 T3 TE E_is_name E_is_whole, PySem.W.mg_of X G a6, k6, b6, .nil⟩
  have F7 := fun_mk (st := s_Order___init) l7 c7 k7
  have b7 := F7.binds (ps := ["self", "events"]) fun _ _ _ _ _ _ us hl => match us, hl with | [_, _], _ => rfl
  let R_Order : Mnx l.prog w K mg base C_Order "Order" 3 ["self", "events"] [] [] (spOrderX C_BadOrder C_Event) := ⟨f7, _, ⟨mk_Order, in_Order, fn_Order, kp_Order⟩, Cl_Order, ok_orderX F7 T4 TO TE X_BadOrder E_event_fault, PySem.W.mg_of X G aC_Order, b7, .nil⟩
  have F8 := fun_mk (st := s_Order___eq) l8 c8 k8
  have b8 := F8.binds (ps := ["self", "other"]) fun _ _ _ _ _ _ us hl => match us, hl with | [_, _], _ => rfl
  let O_Order : On l.prog w K mg base C_Order 3 ["self", "other"] (spEqO C_Order C_Event) := ⟨f8, _, ⟨oe_Order, of_Order, on_Order, om_Order⟩, ok_eqO F8 T TO TI_Order gC_Order O_Event, b8⟩
  have F9 := fun_mk (st := s_Order___iter) l9 c9 k9
  have b9 := F9.binds (ps := ["self"]) fun _ _ _ _ _ _ us hl => match us, hl with | [_], _ => rfl
  let I_Order : ItOwn l.prog w K mg base C_Order "events" 1 := ⟨f9, it_Order, itf_Order, ok_iterO F9 b_iter TO b9⟩
  have F10 := fun_mk (st := s_event_row) l10 c10 k10
  have b10 := F10.binds (ps := ["event"]) fun _ _ _ _ _ _ us hl => match us, hl with | [_], _ => rfl
  let E_event_row : Dn l.prog w K mg base "event_row" 1 ["event"] [] [] (spRowTx C_Event) := ⟨f10, _, ok_rowtx F10 T TE, PySem.W.mg_of X G a10, k10, b10, .nil⟩
  have F11 := fun_mk (st := s_order_text) l11 c11 k11
  have b11 := F11.binds (ps := ["order"]) fun _ _ _ _ _ _ us hl => match us, hl with | [_], _ => rfl
  let E_order_text : Dn l.prog w K mg base "order_text" 2 ["order"] [] [] (spText C_Order C_Event) := ⟨f11, _, ok_text F11 T TO E_event_row, PySem.W.mg_of X G a11, k11, b11, .nil⟩
  have F12 := fun_mk (st := s_parse_event) l12 c12 k12
  have b12 := F12.binds (ps := ["row"]) fun _ _ _ _ _ _ us hl => match us, hl with | [_], _ => rfl
  let E_parse_event : Dn l.prog w K mg base "parse_event" 3 ["row"] [] [] (spParse C_Event) := ⟨f12, _, ok_parse F12 T3 E_is_name M_Event, PySem.W.mg_of X G a12, k12, b12, .nil⟩
  have F13 := fun_mk (st := s_parse_order) l13 c13 k13
  have b13 := F13.binds (ps := ["text"]) fun _ _ _ _ _ _ us hl => match us, hl with | [_], _ => rfl
  let E_parse_order : Dn l.prog w K mg base "parse_order" 5 ["text"] [] [] (spParseP C_Order C_Event) := ⟨f13, _, ok_parseQ F13 T X_BadText C_BadOrder R_Order E_parse_event, PySem.W.mg_of X G a13, k13, b13, .nil⟩
  let R_parse_order : Dx l.prog w K mg base "parse_order" 5 ["text"] (spParseO C_BadText C_BadOrder C_Order C_Event) := ⟨f13, _, ok_parseO F13 T X_BadText C_BadOrder R_Order E_parse_event, PySem.W.mg_of X G a13, k13, b13⟩
  have F14 := fun_mk (st := s_law_bag) l14 c14 k14
  have b14 := F14.binds (ps := ["script"]) fun _ _ _ _ _ _ us hl => match us, hl with | [_], _ => rfl
  let E_law_bag : Dr l.prog w K mg base "_law_bag" 1 ["script"] (spBag K) := ⟨f14, _, ok_bag F14 T, PySem.W.mg_of X G a14, k14, b14, .nil⟩
  have F15 := fun_mk (st := s_law_draw) l15 c15 k15
  have b15 := F15.binds (ps := ["bag", "limit"]) fun _ _ _ _ _ _ us hl => match us, hl with | [_, _], _ => rfl
  let E_law_draw : Dn l.prog w K mg base "_law_draw" 1 ["bag", "limit"] [] [] spDraw := ⟨f15, _, ok_draw F15 T, PySem.W.mg_of X G a15, k15, b15, .nil⟩
  have F16 := fun_mk (st := s_law_names) l16 c16 k16
  have b16 := F16.binds (ps := ["bag", "many"]) fun _ _ _ _ _ _ us hl => match us, hl with | [_, _], _ => rfl
  let E_law_names : Dn l.prog w K mg base "_law_names" 2 ["bag", "many"] [] [] spNames := ⟨f16, _, ok_names F16 T E_law_draw, PySem.W.mg_of X G a16, k16, b16, .nil⟩
  have F17 := fun_mk (st := s_law_drawn_events) l17 c17 k17
  have b17 := F17.binds (ps := ["bag"]) fun _ _ _ _ _ _ us hl => match us, hl with | [_], _ => rfl
  let E_law_drawn_events : Dn l.prog w K mg base "_law_drawn_events" 3 ["bag"] [] [] spDrawnL := ⟨f17, _, ok_drawnL F17 T E_law_draw E_law_names, PySem.W.mg_of X G a17, k17, b17, .nil⟩
  have F18 := fun_mk (st := s_law_text) l18 c18 k18
  have b18 := F18.binds (ps := ["events"]) fun _ _ _ _ _ _ us hl => match us, hl with | [_], _ => rfl
  let E_law_text : Dn l.prog w K mg base "_law_text" 1 ["events"] [] [] spLText := ⟨f18, _, ok_ltext F18 T, PySem.W.mg_of X G a18, k18, b18, .nil⟩
  have F19 := fun_mk (st := s_law_is_name) l19 c19 k19
  have b19 := F19.binds (ps := ["word"]) fun _ _ _ _ _ _ us hl => match us, hl with | [_], _ => rfl
  let E_law_is_name : Dn l.prog w K mg base "_law_is_name" 1 ["word"] [] [] spLName := ⟨f19, _, ok_lname F19 T, PySem.W.mg_of X G a19, k19, b19, .nil⟩
  have F20 := fun_mk (st := s_law_read) l20 c20 k20
  have b20 := F20.binds (ps := ["text"]) fun _ _ _ _ _ _ us hl => match us, hl with | [_], _ => rfl
  let E_law_read : Dn l.prog w K mg base "_law_read" 2 ["text"] [] [] spRead := ⟨f20, _, ok_lread F20 T E_law_is_name, PySem.W.mg_of X G a20, k20, b20, .nil⟩
  have F21 := fun_mk (st := s_law_spoiled) l21 c21 k21
  have b21 := F21.binds (ps := ["bag", "text"]) fun _ _ _ _ _ _ us hl => match us, hl with | [_, _], _ => rfl
  let E_law_spoiled : Dn l.prog w K mg base "_law_spoiled" 2 ["bag", "text"] [] [] spSpoil := ⟨f21, _, ok_spoil F21 T E_law_draw, PySem.W.mg_of X G a21, k21, b21, .nil⟩
  have F22 := fun_mk (st := s_law_made) l22 c22 k22
  have b22 := F22.binds (ps := ["events"]) fun _ _ _ _ _ _ us hl => match us, hl with | [_], _ => rfl
  let E_law_made : Dn l.prog w K mg base "_law_made" 5 ["events"] [] [] (spMadeO C_Order C_Event) := ⟨f22, _, ok_madeO F22 T M_Event R_Order, PySem.W.mg_of X G a22, k22, b22, .nil⟩
  have F23 := fun_mk (st := s_law_back_right) l23 c23 k23
  have b23 := F23.binds (ps := ["text"]) fun _ _ _ _ _ _ us hl => match us, hl with | [_], _ => rfl
  let E_law_back_right : Dn l.prog w K mg base "_law_back_right" 6 ["text"] [] [] spBack := ⟨f23, _, ok_back F23 T X_BadText X_BadOrder E_no_BadOrder_BadText O_Order E_law_read E_law_made E_order_text R_parse_order, PySem.W.mg_of X G a23, k23, b23, .nil⟩
  have F24 := fun_mk (st := s_law_no_text) l24 c24 k24
  have b24 := F24.binds (ps := ["thing"]) fun _ _ _ _ _ _ us hl => match us, hl with | [_], _ => rfl
  let E_law_no_text : Dn l.prog w K mg base "_law_no_text" 6 ["thing"] [] [] spNoT := ⟨f24, _, ok_notext F24 T X_BadText R_parse_order, PySem.W.mg_of X G a24, k24, b24, .nil⟩
  exact ok_law (fun_mk (st := s_law) l25 c25 k25) T TO TE I_Order O_Order E_law_bag E_law_draw E_law_no_text E_law_drawn_events E_law_made E_order_text E_law_text E_parse_order E_law_spoiled E_law_back_right
theorem walk {l : PySem.W.OpenLaw} {q : Program} {loose : List Str} {XP : (Str → Option Value) → Heap → Prop} {YP : World → Heap → Prop} {d : DefRec} {K : Params → PySem.W.Frag} (hn : l.most = some 63) (hdf : d.params.defaults = [])
    (hY : ∀ (w : World) (h : Heap), YP w h → (K w.params).In h)
    (F : ∀ (w : World) (mg : Str → Option Value) (fa : Addr) (h : Heap), (K w.params).In h → h.Ns mainGlobals mg → mg d.name = some (.ref fa) →
      ∃ fd : FuncData, (∀ (s : Shared) (u : Value), BindsTo s fd ⟨[u], []⟩ [("script", u)]) ∧ ∀ base : Heap, (K w.params).In base → base.Ns mainGlobals mg → FnOk l.prog w (K w.params) mg base CX0 7 fa fd ["script"] (spLaw (K w.params))) :
    PySem.W.WalkO q loose XP YP l.row.toRowW d [] (fun f vs => PySem.call f vs) :=
  L2.walk_of (n := 63) (k := 7) (x := "script") (CX := fun _ => CX0) (sp := fun w => spLaw (K w.params)) hn (by decide) hdf ⟨rfl, by decide, by decide⟩ hY F (fun _ _ a ns hl _ hS => ⟨a, ns, rfl, hS, hl, fun _ => rfl⟩) fun _ _ _ _ _ z => z
end Toy
open PySem PySem.W PyProof.Rows in
set_option maxRecDepth 100000 in
set_option maxHeartbeats 0 in
theorem PySem.Challenge.cw_askedtrue_k00_texts_of_orders_and_back_holds : PySem.Challenge.rw_askedtrue_k00_texts_of_orders_and_back.Holds := by
  w_on; o_law; k_head; (case hw => w_witness2)
  k_fill
  refine Toy.walk (l := PySem.Challenge.rw_askedtrue_k00_texts_of_orders_and_back) rfl rfl (fun w h Y => PySem.W.kIn_of Y) ?F
  case F =>
    intro w mg fa h KX G hmg
    refine' Toy.all_mk KX G hmg ?aC_Event ?pg_Event ?hd_Event ?po_Event ?sa_Event ?na_Event_name ?na_Event_end ?na_Event_kind ?na_Event_needs ?mk_Event ?in_Event ?fn_Event ?kp_Event ?oe_Event ?of_Event ?on_Event ?om_Event ?i1_Event ?aC_Order ?pg_Order ?hd_Order ?po_Order ?sa_Order ?na_Order_events ?mk_Order ?in_Order ?fn_Order ?kp_Order ?oe_Order ?of_Order ?on_Order ?om_Order ?it_Order ?itf_Order ?i1_Order ?i2_ ?i3_ ?aC_AskedError ?rd_AskedError ?ga_AskedError ?vi_AskedError ?aC_BadOrder ?xL_BadOrder ?sa_BadOrder ?xa_BadOrder ?xg_BadOrder ?na_BadOrder_what ?na_BadOrder_name ?in_BadOrder ?ti_BadOrder ?kp_BadOrder ?ex_BadOrder ?ty_BadOrder ?hd_BadOrder ?ic_BadOrder ?sc_BadOrder ?aC_BadText ?xL_BadText ?sa_BadText ?xa_BadText ?xg_BadText ?na_BadText_row ?in_BadText ?ti_BadText ?kp_BadText ?ex_BadText ?ty_BadText ?hd_BadText ?ic_BadText ?sc_BadText ?sn_BadOrder_BadText ?l0 ?c0 ?k0 ?l1 ?c1 ?k1 ?a2 ?l2 ?c2 ?k2 ?a3 ?l3 ?c3 ?k3 ?l4 ?c4 ?k4 ?lT4 ?l5 ?c5 ?k5 ?a6 ?l6 ?c6 ?k6 ?l7 ?c7 ?k7 ?l8 ?c8 ?k8 ?l9 ?c9 ?k9 ?a10 ?l10 ?c10 ?k10 ?a11 ?l11 ?c11 ?k11 ?a12 ?l12 ?c12 ?k12 ?a13 ?l13 ?c13 ?k13 ?a14 ?l14 ?c14 ?k14 ?a15 ?l15 ?c15 ?k15 ?a16 ?l16 ?c16 ?k16 ?a17 ?l17 ?c17 ?k17 ?a18 ?l18 ?c18 ?k18 ?a19 ?l19 ?c19 ?k19 ?a20 ?l20 ?c20 ?k20 ?a21 ?l21 ?c21 ?k21 ?a22 ?l22 ?c22 ?k22 ?a23 ?l23 ?c23 ?k23 ?a24 ?l24 ?c24 ?k24 ?a25 ?l25 ?c25 ?k25 ?zLETTERS ?zSIGNS ?zENDS ?zNEEDS ?zEVENTS ?zKINDS ?lK ?z2_iter ?z_len ?z_abs ?z_sum ?z_max ?z_min ?z_all ?z_any ?z_sorted ?z_isinstance ?z_int ?z_bool ?z_str ?z_list ?z_tuple ?z_range ?z_enumerate ?z_dict
    (case aC_Event => k_is)
    (case pg_Event => k_is)
    (case hd_Event => k_is)
    (case po_Event => k_is)
    (case sa_Event => k_is)
    (case na_Event_name => k_is)
    (case na_Event_end => k_is)
    (case na_Event_kind => k_is)
    (case na_Event_needs => k_is)
    (case mk_Event => k_is)
    (case in_Event => k_is)
    (case fn_Event => k_is)
    (case kp_Event => k_is)
    (case oe_Event => k_is)
    (case of_Event => k_is)
    (case on_Event => k_is)
    (case om_Event => k_is)
    (case i1_Event => k_is)
    (case aC_Order => k_is)
    (case pg_Order => k_is)
    (case hd_Order => k_is)
    (case po_Order => k_is)
    (case sa_Order => k_is)
    (case na_Order_events => k_is)
    (case mk_Order => k_is)
    (case in_Order => k_is)
    (case fn_Order => k_is)
    (case kp_Order => k_is)
    (case oe_Order => k_is)
    (case of_Order => k_is)
    (case on_Order => k_is)
    (case om_Order => k_is)
    (case it_Order => k_is)
    (case itf_Order => k_is)
    (case i1_Order => k_is)
    (case i2_ => k_is)
    (case i3_ => k_is)
    (case aC_AskedError => k_is)
    (case rd_AskedError => k_is)
    (case ga_AskedError => k_is)
    (case vi_AskedError => k_is)
    (case aC_BadOrder => k_is)
    (case xL_BadOrder => k_is)
    (case sa_BadOrder => k_is)
    (case xa_BadOrder => k_is)
    (case xg_BadOrder => k_is)
    (case na_BadOrder_what => k_is)
    (case na_BadOrder_name => k_is)
    (case in_BadOrder => k_is)
    (case ti_BadOrder => k_is)
    (case kp_BadOrder => k_is)
    (case ex_BadOrder => k_is)
    (case ty_BadOrder => k_is)
    (case hd_BadOrder => k_is)
    (case ic_BadOrder => k_is)
    (case sc_BadOrder => k_is)
    (case aC_BadText => k_is)
    (case xL_BadText => k_is)
    (case sa_BadText => k_is)
    (case xa_BadText => k_is)
    (case xg_BadText => k_is)
    (case na_BadText_row => k_is)
    (case in_BadText => k_is)
    (case ti_BadText => k_is)
    (case kp_BadText => k_is)
    (case ex_BadText => k_is)
    (case ty_BadText => k_is)
    (case hd_BadText => k_is)
    (case ic_BadText => k_is)
    (case sc_BadText => k_is)
    (case sn_BadOrder_BadText => k_is)
    (case l0 => k_is)
    (case c0 => k_is)
    (case k0 => k_is)
    (case l1 => k_is)
    (case c1 => k_is)
    (case k1 => k_is)
    (case a2 => k_is)
    (case l2 => k_is)
    (case c2 => k_is)
    (case k2 => k_is)
    (case a3 => k_is)
    (case l3 => k_is)
    (case c3 => k_is)
    (case k3 => k_is)
    (case l4 => k_is)
    (case c4 => k_is)
    (case k4 => k_is)
    (case lT4 => k_is)
    (case l5 => k_is)
    (case c5 => k_is)
    (case k5 => k_is)
    (case a6 => k_is)
    (case l6 => k_is)
    (case c6 => k_is)
    (case k6 => k_is)
    (case l7 => k_is)
    (case c7 => k_is)
    (case k7 => k_is)
    (case l8 => k_is)
    (case c8 => k_is)
    (case k8 => k_is)
    (case l9 => k_is)
    (case c9 => k_is)
    (case k9 => k_is)
    (case a10 => k_is)
    (case l10 => k_is)
    (case c10 => k_is)
    (case k10 => k_is)
    (case a11 => k_is)
    (case l11 => k_is)
    (case c11 => k_is)
    (case k11 => k_is)
    (case a12 => k_is)
    (case l12 => k_is)
    (case c12 => k_is)
    (case k12 => k_is)
    (case a13 => k_is)
    (case l13 => k_is)
    (case c13 => k_is)
    (case k13 => k_is)
    (case a14 => k_is)
    (case l14 => k_is)
    (case c14 => k_is)
    (case k14 => k_is)
    (case a15 => k_is)
    (case l15 => k_is)
    (case c15 => k_is)
    (case k15 => k_is)
    (case a16 => k_is)
    (case l16 => k_is)
    (case c16 => k_is)
    (case k16 => k_is)
    (case a17 => k_is)
    (case l17 => k_is)
    (case c17 => k_is)
    (case k17 => k_is)
    (case a18 => k_is)
    (case l18 => k_is)
    (case c18 => k_is)
    (case k18 => k_is)
    (case a19 => k_is)
    (case l19 => k_is)
    (case c19 => k_is)
    (case k19 => k_is)
    (case a20 => k_is)
    (case l20 => k_is)
    (case c20 => k_is)
    (case k20 => k_is)
    (case a21 => k_is)
    (case l21 => k_is)
    (case c21 => k_is)
    (case k21 => k_is)
    (case a22 => k_is)
    (case l22 => k_is)
    (case c22 => k_is)
    (case k22 => k_is)
    (case a23 => k_is)
    (case l23 => k_is)
    (case c23 => k_is)
    (case k23 => k_is)
    (case a24 => k_is)
    (case l24 => k_is)
    (case c24 => k_is)
    (case k24 => k_is)
    (case a25 => k_is)
    (case l25 => k_is)
    (case c25 => k_is)
    (case k25 => k_is)
    (case zLETTERS => k_is)
    (case zSIGNS => k_is)
    (case zENDS => k_is)
    (case zNEEDS => k_is)
    (case zEVENTS => k_is)
    (case zKINDS => k_is)
    (case lK => k_is)
    (case z2_iter => k_is)
    (case z_len => k_is)
    (case z_abs => k_is)
    (case z_sum => k_is)
    (case z_max => k_is)
    (case z_min => k_is)
    (case z_all => k_is)
    (case z_any => k_is)
    (case z_sorted => k_is)
    (case z_isinstance => k_is)
    (case z_int => k_is)
    (case z_bool => k_is)
    (case z_str => k_is)
    (case z_list => k_is)
    (case z_tuple => k_is)
    (case z_range => k_is)
    (case z_enumerate => k_is)
    (case z_dict => k_is)
