import PyProof.Rows.All
import Wide.All
import OpenK.AllK
import Wide.FinOn
import HandS.ForMost
import HandS.Wide
import KE.KDictKeyed
import KE.KeyNested
import HandS.IsInst
import HandS.Deep
import HandS.TupAny
import KE.SortData
import HandS.Steps
import KE.KDictSum
import HandS.Defaults
import HandS.Dict
import KE.GoesEnum
import KE.GoesMore
import HandS.Iter
import HandS.SortKw
import HandS.DictEq
import KE.KEqDict
import PySem.Challenge.RW_askedtrue_k21_whole_plays_of_tables_of_a
set_option Elab.async false
set_option linter.all false
set_option maxRecDepth 100000
set_option maxHeartbeats 4000000
/-! L3: data in place of heaps: what a reading hands on, said of plain data. -/
namespace L3
open PySem L2

/-! ### data -/
inductive D where
  | non | bl (b : Bool) | int (i : Int) | str (s : Str) | lst (xs : List D) | tup (xs : List D) | obj (C : Addr) (fs : List (Str × D)) | adr (a : Addr) | ty (n : String) | dct (kvs : List (L2.Key × D)) | dcn (pr : Program) (wd : World) (kvs : List (D × D))

mutual
/-- a key of a dict as the library tells it -/
def nk : D → NestedKey
  | .int i => .num i
  | .str s => .text s
  | .tup xs => .tup (nkAll xs)
  | _ => .none
def nkAll : List D → List NestedKey
  | [] => []
  | x :: xs => nk x :: nkAll xs
end
mutual
def nkOk : D → Bool
  | .non => true
  | .int _ => true
  | .str _ => true
  | .tup xs => nkOkAll xs
  | _ => false
def nkOkAll : List D → Bool
  | [] => true
  | x :: xs => nkOk x && nkOkAll xs
end
/-- fit for a key of a dict -/
def keyD : D → Bool
  | .tup xs => nkOkAll xs && decide ((nk (.tup xs)).depth ≤ 8)
  | _ => false
def DictBare (pr : Program) (wd : World) (xs : List (NestedKey × Addr × Value)) (a : Addr) (h : Heap) : Prop :=
  ∃ o es ep, h.get? a = some o ∧ o.ExactDict ∧ o.data = .dict es ep ∧ es.toList = xs.map (entryOfKey (nestedKind pr wd)) ∧ (xs.map (·.1)).Nodup
mutual
inductive Rp (K : PySem.W.Frag) (H : Hp) : V → D → Prop
  | non : Rp K H .non .non
  | bl (b : Bool) : Rp K H (.bl b) (.bl b)
  | int (i : Int) : Rp K H (.int i) (.int i)
  | str (x : Str) : Rp K H (.str x) (.str x)
  | lst {a : Addr} {xs : List V} {ds : List D} : Rd H a (.lst xs) → RpAll K H xs ds → Rp K H (.ref a) (.lst ds)
  | tup {a : Addr} {xs : List V} {ds : List D} : SqT K H a xs → RpAll K H xs ds → Rp K H (.ref a) (.tup ds)
  | obj {a C dx : Addr} {fs : List (Str × V)} {ds : List (Str × D)} : H a = some (.ins C dx fs) → RpFs K H fs ds → Rp K H (.ref a) (.obj C ds)
  | adr (a : Addr) : Rp K H (.ref a) (.adr a)
  | ty (n : String) : Rp K H (.ty n) (.ty n)
  | dct {a : Addr} {xs : List (L2.Key × V)} {kvs : List (L2.Key × D)} : Rd H a (.dK xs) → RpKs K H xs kvs → Rp K H (.ref a) (.dct kvs)
  | dcn {a : Addr} {pr : Program} {wd : World} {xs : List (NestedKey × Addr × Value)} {kvs : List (D × D)} : H a = some (.ext (DictBare pr wd xs a)) → (a == sysModules) = false → RpNs K H xs kvs → Rp K H (.ref a) (.dcn pr wd kvs)
inductive RpAll (K : PySem.W.Frag) (H : Hp) : List V → List D → Prop
  | nil : RpAll K H [] []
  | cons {v : V} {vs : List V} {d : D} {ds : List D} : Rp K H v d → RpAll K H vs ds → RpAll K H (v :: vs) (d :: ds)
inductive RpFs (K : PySem.W.Frag) (H : Hp) : List (Str × V) → List (Str × D) → Prop
  | nil : RpFs K H [] []
  | cons {x : Str} {v : V} {vs : List (Str × V)} {d : D} {ds : List (Str × D)} : Rp K H v d → RpFs K H vs ds → RpFs K H ((x, v) :: vs) ((x, d) :: ds)
inductive RpKs (K : PySem.W.Frag) (H : Hp) : List (L2.Key × V) → List (L2.Key × D) → Prop
  | nil : RpKs K H [] []
  | cons {x : L2.Key} {v : V} {vs : List (L2.Key × V)} {d : D} {ds : List (L2.Key × D)} : Rp K H v d → RpKs K H vs ds → RpKs K H ((x, v) :: vs) ((x, d) :: ds)
inductive RpNs (K : PySem.W.Frag) (H : Hp) : List (NestedKey × Addr × Value) → List (D × D) → Prop
  | nil : RpNs K H [] []
  | cons {x : NestedKey × Addr × Value} {v : V} {xs : List (NestedKey × Addr × Value)} {kd d : D} {ds : List (D × D)} : keyD kd = true → x.1 = nk kd → Rp K H (.ref x.2.1) kd → RelV v x.2.2 → Rp K H v d → RpNs K H xs ds → RpNs K H (x :: xs) ((kd, d) :: ds)
end

theorem same_rd {H H' : Hp} {a : Addr} {u : HO} (e : Same H H') (h : Rd H a u) : Rd H' a u := by
  rcases h with h | ⟨o, h⟩
  · exact .inl (e a _ h)
  · exact .inr ⟨o, e a _ h⟩
theorem same_l {K : PySem.W.Frag} {H H' : Hp} {a : Addr} {xs : List V} (e : Same H H') (h : SqL K H a xs) : SqL K H' a xs := by
  rcases h with h | h
  · exact .inl (same_rd e h)
  · exact .inr h
theorem same_t {K : PySem.W.Frag} {H H' : Hp} {a : Addr} {xs : List V} (e : Same H H') (h : SqT K H a xs) : SqT K H' a xs := by
  rcases h with h | h
  · exact .inl (same_rd e h)
  · exact .inr h

section
variable {K : PySem.W.Frag} {H H' : Hp}
mutual
theorem Rp.mono (e : Same H H') : ∀ {v : V} {d : D}, Rp K H v d → Rp K H' v d
  | _, _, .non => .non
  | _, _, .bl b => .bl b
  | _, _, .int i => .int i
  | _, _, .str x => .str x
  | _, _, .lst h r => .lst (same_rd e h) (RpAll.mono e r)
  | _, _, .tup h r => .tup (same_t e h) (RpAll.mono e r)
  | _, _, .obj h r => .obj (e _ _ h) (RpFs.mono e r)
  | _, _, .adr a => .adr a
  | _, _, .ty n => .ty n
  | _, _, .dct h r => .dct (same_rd e h) (RpKs.mono e r)
  | _, _, .dcn h s r => .dcn (e _ _ h) s (RpNs.mono e r)
theorem RpAll.mono (e : Same H H') : ∀ {vs : List V} {ds : List D}, RpAll K H vs ds → RpAll K H' vs ds
  | _, _, .nil => .nil
  | _, _, .cons h r => .cons (Rp.mono e h) (RpAll.mono e r)
theorem RpFs.mono (e : Same H H') : ∀ {vs : List (Str × V)} {ds : List (Str × D)}, RpFs K H vs ds → RpFs K H' vs ds
  | _, _, .nil => .nil
  | _, _, .cons h r => .cons (Rp.mono e h) (RpFs.mono e r)
theorem RpKs.mono (e : Same H H') : ∀ {vs : List (L2.Key × V)} {ds : List (L2.Key × D)}, RpKs K H vs ds → RpKs K H' vs ds
  | _, _, .nil => .nil
  | _, _, .cons h r => .cons (Rp.mono e h) (RpKs.mono e r)
theorem RpNs.mono (e : Same H H') : ∀ {vs : List (NestedKey × Addr × Value)} {ds : List (D × D)}, RpNs K H vs ds → RpNs K H' vs ds
  | _, _, .nil => .nil
  | _, _, .cons a b h w v r => .cons a b (Rp.mono e h) w (Rp.mono e v) (RpNs.mono e r)
end
theorem RpAll.length : ∀ {vs : List V} {ds : List D}, RpAll K H vs ds → vs.length = ds.length
  | _, _, .nil => rfl
  | _, _, .cons _ r => by rw [List.length_cons, List.length_cons, RpAll.length r]
theorem RpAll.get : ∀ {vs : List V} {ds : List D} {i : Nat} {v : V}, RpAll K H vs ds → vs[i]? = some v → ∃ d, ds[i]? = some d ∧ Rp K H v d
  | _, _, _, _, .nil, e => by simp at e
  | _, _, 0, _, .cons h _, e => by simp at e; subst e; exact ⟨_, rfl, h⟩
  | _, _, i + 1, _, .cons _ r, e => by
    obtain ⟨d, h1, h2⟩ := RpAll.get (i := i) r (by simpa using e)
    exact ⟨d, by simpa using h1, h2⟩
theorem RpAll.get' : ∀ {vs : List V} {ds : List D} {i : Nat} {d : D}, RpAll K H vs ds → ds[i]? = some d → ∃ v, vs[i]? = some v ∧ Rp K H v d
  | _, _, _, _, .nil, e => by simp at e
  | _, _, 0, _, .cons h _, e => by simp at e; subst e; exact ⟨_, rfl, h⟩
  | _, _, i + 1, _, .cons _ r, e => by
    obtain ⟨d, h1, h2⟩ := RpAll.get' (i := i) r (by simpa using e)
    exact ⟨d, by simpa using h1, h2⟩
theorem RpAll.append : ∀ {vs ws : List V} {ds es : List D}, RpAll K H vs ds → RpAll K H ws es → RpAll K H (vs ++ ws) (ds ++ es)
  | _, _, _, _, .nil, s => s
  | _, _, _, _, .cons h r, s => .cons h (RpAll.append r s)
theorem RpAll.take : ∀ {vs : List V} {ds : List D} (n : Nat), RpAll K H vs ds → RpAll K H (vs.take n) (ds.take n)
  | _, _, 0, _ => .nil
  | _, _, _ + 1, .nil => .nil
  | _, _, n + 1, .cons h r => .cons h (RpAll.take n r)
theorem RpAll.drop : ∀ {vs : List V} {ds : List D} (n : Nat), RpAll K H vs ds → RpAll K H (vs.drop n) (ds.drop n)
  | _, _, 0, r => r
  | _, _, _ + 1, .nil => .nil
  | _, _, n + 1, .cons _ r => RpAll.drop n r
theorem RpAll.set {v : V} {d : D} (h : Rp K H v d) : ∀ {vs : List V} {ds : List D} (i : Nat), RpAll K H vs ds → RpAll K H (vs.set i v) (ds.set i d)
  | _, _, _, .nil => .nil
  | _, _, 0, .cons _ r => .cons h r
  | _, _, i + 1, .cons q r => .cons q (RpAll.set h i r)
theorem RpAll.eraseIdx : ∀ {vs : List V} {ds : List D} (i : Nat), RpAll K H vs ds → RpAll K H (vs.eraseIdx i) (ds.eraseIdx i)
  | _, _, _, .nil => .nil
  | _, _, 0, .cons _ r => r
  | _, _, i + 1, .cons q r => .cons q (RpAll.eraseIdx i r)
theorem RpAll.ints : ∀ {vs : List V} {ns : List Int}, RpAll K H vs (ns.map D.int) → vs = ns.map V.int
  | _, [], h => by cases h; rfl
  | _, n :: ns, h => by
    cases h with
    | cons h r => cases h; rw [RpAll.ints r]; rfl
theorem RpAll.ofInts : ∀ (ns : List Int), RpAll K H (ns.map V.int) (ns.map D.int)
  | [] => .nil
  | n :: ns => .cons (.int n) (RpAll.ofInts ns)
end

/-! ### hidden addresses -/
def hid (O : List Addr) (H : Hp) : Hp := fun a => if a ∈ O then none else H a
theorem hid_in {O : List Addr} {H : Hp} {a : Addr} (h : a ∈ O) : hid O H a = none := if_pos h
theorem hid_out {O : List Addr} {H : Hp} {a : Addr} (h : a ∉ O) : hid O H a = H a := if_neg h
theorem hid_some {O : List Addr} {H : Hp} {a : Addr} {o : HO} : hid O H a = some o ↔ a ∉ O ∧ H a = some o := by
  unfold hid
  by_cases h : a ∈ O
  · rw [if_pos h]; exact ⟨(fun e => nomatch e), fun e => absurd h e.1⟩
  · rw [if_neg h]; exact ⟨fun e => ⟨h, e⟩, fun e => e.2⟩
theorem hid_nil {H : Hp} : hid [] H = H := by
  funext a; exact hid_out (by simp)
theorem same_hid {O : List Addr} {H : Hp} : Same (hid O H) H := fun a o e => (hid_some.mp e).2
theorem same_hid_sub {O O' : List Addr} {H : Hp} (h : ∀ a, a ∈ O → a ∈ O') : Same (hid O' H) (hid O H) := fun a o e => by
  obtain ⟨h1, h2⟩ := hid_some.mp e
  exact hid_some.mpr ⟨fun q => h1 (h a q), h2⟩
theorem same_hid_of {O : List Addr} {H H' : Hp} (e : Same H H') : Same (hid O H) (hid O H') := fun a o q => by
  obtain ⟨h1, h2⟩ := hid_some.mp q
  exact hid_some.mpr ⟨h1, e a o h2⟩
/-- hiding more of two heaps that agree -/
theorem same_hid_more {O B : List Addr} {H H' : Hp} (h : ∀ a, a ∈ B → a ∈ O) (e : Same (hid B H) (hid B H')) : Same (hid O H) (hid O H') := fun a o q => by
  obtain ⟨h1, h2⟩ := hid_some.mp q
  exact hid_some.mpr ⟨h1, (hid_some.mp (e a o (hid_some.mpr ⟨fun q => h1 (h a q), h2⟩))).2⟩
theorem hid_upd_in {O : List Addr} {H : Hp} {a : Addr} {o : HO} (h : a ∈ O) : hid O (upd H a o) = hid O H := by
  funext b
  unfold hid
  by_cases hb : b ∈ O
  · rw [if_pos hb, if_pos hb]
  · rw [if_neg hb, if_neg hb, upd_ne (fun e => hb (by rw [e]; exact h))]
theorem same_upd_new {H : Hp} {p : Addr} {o : HO} (h : H p = none) : Same H (upd H p o) := fun b u e => by
  rw [upd_ne (ne_of_none e h)]; exact e
theorem hid_new_in {O : List Addr} {H : Hp} {p : Addr} {o : HO} (h : H p = none) : hid (p :: O) (upd H p o) = hid O H := by
  funext b
  unfold hid
  by_cases hb : b = p
  · subst hb
    rw [if_pos List.mem_cons_self]
    by_cases h2 : b ∈ O
    · rw [if_pos h2]
    · rw [if_neg h2, h]
  · by_cases h2 : b ∈ O
    · rw [if_pos (List.mem_cons_of_mem _ h2), if_pos h2]
    · rw [if_neg (fun q => by rcases List.mem_cons.mp q with e | e; exact hb e; exact h2 e), if_neg h2, upd_ne hb]

/-! ### the bag: a list of a list of non-negative ints, a turn, a rest -/
def BagOk (b q : Addr) (n : Nat) (H : Hp) : Prop :=
  ∃ (t r : Int) (cs : List Int), H b = some (.lst [.ref q, .int t, .int r]) ∧ H q = some (.lst (cs.map V.int)) ∧ cs ≠ [] ∧ (∀ c ∈ cs, 0 ≤ c) ∧ cs.length ≤ 63 ∧ 0 ≤ t ∧ t ≤ n ∧ 0 ≤ r
theorem BagOk.move {b q : Addr} {n : Nat} {H H' : Hp} (h : BagOk b q n H) (e : ∀ o, H b = some o → H' b = some o) (e2 : ∀ o, H q = some o → H' q = some o) : BagOk b q n H' := by
  obtain ⟨t, r, cs, h1, h2, h3⟩ := h
  exact ⟨t, r, cs, e _ h1, e2 _ h2, h3⟩
theorem BagOk.le {b q : Addr} {n m : Nat} {H : Hp} (h : BagOk b q n H) (hn : n ≤ m) : BagOk b q m H := by
  obtain ⟨t, r, cs, h1, h2, h4, h5, h6, h7, h8, h9⟩ := h
  exact ⟨t, r, cs, h1, h2, h4, h5, h6, h7, by omega, h9⟩
theorem BagOk.lst {b q : Addr} {n : Nat} {H : Hp} (h : BagOk b q n H) : ∃ xs, H b = some (.lst xs) := by
  obtain ⟨t, r, cs, h1, _⟩ := h
  exact ⟨_, h1⟩

/-! ### the context, slots -/
structure Ctx where
  pr : Program
  wd : World
  K : PySem.W.Frag
  /-- owned by callers -/
  O : List Addr
  bag : Option (Addr × Addr)
  /-- the heap at the entry -/
  H0 : Hp
def Ctx.B (c : Ctx) : List Addr := (c.bag.map (·.1)).toList
def Ctx.J (c : Ctx) (n : Nat) (H : Hp) : Prop := ∀ b q, c.bag = some (b, q) → BagOk b q n H
inductive SD where
  | un
  | val (d : D)
  | own (ds : List D)
  | dic (kvs : List (D × D))
  | dk (kvs : List (L2.Key × D))
  | tw (l : Addr) (kvs : List (D × D)) (ds : List D)
/-- one entry -/
def EntD (K : PySem.W.Frag) (H : Hp) (kv : D × D) (x : NestedKey × Addr × Value) : Prop := keyD kv.1 = true ∧ x.1 = nk kv.1 ∧ Rp K H (.ref x.2.1) kv.1 ∧ ∃ v, RelV v x.2.2 ∧ Rp K H v kv.2
def NDict (pr : Program) (wd : World) (K : PySem.W.Frag) (O : List Addr) (H : Hp) (l : Addr) (kvs : List (D × D)) : Prop :=
  ∃ xs, H l = some (.ext (DictBare pr wd xs l)) ∧ (l == sysModules) = false ∧ Paired (EntD K (hid O H)) kvs xs
theorem EntD.mono {K : PySem.W.Frag} {H H' : Hp} {kv : D × D} {x : NestedKey × Addr × Value} (e : Same H H') (h : EntD K H kv x) : EntD K H' kv x := by
  obtain ⟨h1, h2, h3, v, h4, h5⟩ := h
  exact ⟨h1, h2, h3.mono e, v, h4, h5.mono e⟩
theorem Paired.imp' {α β : Type} {R S : α → β → Prop} (f : ∀ a b, R a b → S a b) : ∀ {xs : List α} {ys : List β}, Paired R xs ys → Paired S xs ys
  | _, _, .nil => .nil
  | _, _, .cons h t => .cons (f _ _ h) (Paired.imp' f t)
theorem NDict.move {pr : Program} {wd : World} {K : PySem.W.Frag} {O O' : List Addr} {H H' : Hp} {l : Addr} {kvs : List (D × D)} (h : NDict pr wd K O H l kvs) (hl : H' l = H l) (e : Same (hid O H) (hid O' H')) : NDict pr wd K O' H' l kvs := by
  obtain ⟨xs, h1, h2, h3⟩ := h
  exact ⟨xs, hl.trans h1, h2, Paired.imp' (fun _ _ q => q.mono e) h3⟩
theorem RpNs.pair {K : PySem.W.Frag} {H : Hp} : ∀ {xs : List (NestedKey × Addr × Value)} {kvs : List (D × D)}, RpNs K H xs kvs → Paired (EntD K H) kvs xs
  | _, _, .nil => .nil
  | _, _, .cons a b h w v r => .cons ⟨a, b, h, _, w, v⟩ (RpNs.pair r)
theorem RpNs.of {K : PySem.W.Frag} {H : Hp} : ∀ {kvs : List (D × D)} {xs : List (NestedKey × Addr × Value)}, Paired (EntD K H) kvs xs → RpNs K H xs kvs
  | _, _, .nil => .nil
  | (kd, d) :: _, _, .cons ⟨a, b, h, _, w, v⟩ r => .cons a b h w v (RpNs.of r)
/-- a tuple whose head is a dict of one's own -/
def TDict (pr : Program) (wd : World) (K : PySem.W.Frag) (O : List Addr) (H : Hp) (t l : Addr) (kvs : List (D × D)) (ds : List D) : Prop :=
  ∃ vs, SqT K (hid O H) t (.ref l :: vs) ∧ RpAll K (hid O H) vs ds ∧ NDict pr wd K O H l kvs
theorem TDict.move {pr : Program} {wd : World} {K : PySem.W.Frag} {O O' : List Addr} {H H' : Hp} {t l : Addr} {kvs : List (D × D)} {ds : List D} (h : TDict pr wd K O H t l kvs ds) (hl : H' l = H l) (e : Same (hid O H) (hid O' H')) : TDict pr wd K O' H' t l kvs ds := by
  obtain ⟨vs, h1, h2, h3⟩ := h
  exact ⟨vs, same_t e h1, h2.mono e, h3.move hl e⟩
/-- a dict of one's own whose keys are ints and texts -/
def KDict (pr : Program) (wd : World) (K : PySem.W.Frag) (O : List Addr) (H : Hp) (l : Addr) (kvs : List (L2.Key × D)) : Prop := ∃ xs, H l = some (.dK xs) ∧ RpKs K (hid O H) xs kvs
theorem KDict.move {pr : Program} {wd : World} {K : PySem.W.Frag} {O O' : List Addr} {H H' : Hp} {l : Addr} {kvs : List (L2.Key × D)} (h : KDict pr wd K O H l kvs) (hl : H' l = H l) (e : Same (hid O H) (hid O' H')) : KDict pr wd K O' H' l kvs := by
  obtain ⟨xs, h1, h3⟩ := h
  exact ⟨xs, hl.trans h1, h3.mono e⟩
inductive Slots (pr : Program) (wd : World) (K : PySem.W.Frag) (O : List Addr) (H : Hp) : List (Option V) → List SD → List Addr → Prop
  | nil : Slots pr wd K O H [] [] []
  | un {x : Option V} {σ : List (Option V)} {ρ : List SD} {L : List Addr} : Slots pr wd K O H σ ρ L → Slots pr wd K O H (x :: σ) (.un :: ρ) L
  | val {v : V} {d : D} {σ : List (Option V)} {ρ : List SD} {L : List Addr} : Rp K (hid O H) v d → Slots pr wd K O H σ ρ L → Slots pr wd K O H (some v :: σ) (.val d :: ρ) L
  | own {l : Addr} {xs : List V} {ds : List D} {σ : List (Option V)} {ρ : List SD} {L : List Addr} : H l = some (.lst xs) → RpAll K (hid O H) xs ds → Slots pr wd K O H σ ρ L → Slots pr wd K O H (some (.ref l) :: σ) (.own ds :: ρ) (l :: L)
  | dic {l : Addr} {kvs : List (D × D)} {σ : List (Option V)} {ρ : List SD} {L : List Addr} : NDict pr wd K O H l kvs → Slots pr wd K O H σ ρ L → Slots pr wd K O H (some (.ref l) :: σ) (.dic kvs :: ρ) (l :: L)
  | dk {l : Addr} {kvs : List (L2.Key × D)} {σ : List (Option V)} {ρ : List SD} {L : List Addr} : KDict pr wd K O H l kvs → Slots pr wd K O H σ ρ L → Slots pr wd K O H (some (.ref l) :: σ) (.dk kvs :: ρ) (l :: L)
  | tw {t l : Addr} {kvs : List (D × D)} {ds : List D} {σ : List (Option V)} {ρ : List SD} {L : List Addr} : TDict pr wd K O H t l kvs ds → Slots pr wd K O H σ ρ L → Slots pr wd K O H (some (.ref t) :: σ) (.tw l kvs ds :: ρ) (l :: L)
/-- P: what has been seen to stand for good -/
structure Env (c : Ctx) (P : Hp) (L : List Addr) (n : Nat) (H : Hp) (σ : List (Option V)) (ρ : List SD) : Prop where
  nd : L.Nodup
  fresh : ∀ l ∈ L, c.H0 l = none ∧ l ∉ c.O
  slots : ∃ Ls, Slots c.pr c.wd c.K (L ++ c.O) H σ ρ Ls ∧ Ls.Sublist L
  lst : ∀ l ∈ L, ∃ o, H l = some o
  bag : c.J n H
  base : Same (hid c.B c.H0) (hid c.B H)
  pers : Same P (hid (L ++ c.O) H)
  bO : ∀ b q, c.bag = some (b, q) → b ∈ c.O ∧ q ∈ c.O ∧ q ≠ b
  al : ∀ o ∈ c.O, H o ≠ none

section
variable {pr : Program} {wd : World} {K : PySem.W.Frag} {O O' : List Addr} {H H' : Hp} {σ : List (Option V)} {ρ : List SD} {L : List Addr}
theorem Slots.len (s : Slots pr wd K O H σ ρ L) : σ.length = ρ.length := by
  induction s with
  | nil => rfl
  | un _ ih => simp [ih]
  | val _ _ ih => simp [ih]
  | own _ _ _ ih => simp [ih]
  | dic _ _ ih => simp [ih]
  | dk _ _ ih => simp [ih]
  | tw _ _ ih => simp [ih]
/-- the owned lists stand, all else that may be seen stands -/
theorem Slots.move (s : Slots pr wd K O H σ ρ L) (hL : ∀ l ∈ L, H' l = H l) (e : Same (hid O H) (hid O' H')) : Slots pr wd K O' H' σ ρ L := by
  induction s with
  | nil => exact .nil
  | un _ ih => exact .un (ih hL)
  | val h _ ih => exact .val (h.mono e) (ih hL)
  | own h1 h2 _ ih => exact .own ((hL _ List.mem_cons_self).trans h1) (h2.mono e) (ih fun l hl => hL l (List.mem_cons_of_mem _ hl))
  | dic h1 _ ih => exact .dic (h1.move (hL _ List.mem_cons_self) e) (ih fun l hl => hL l (List.mem_cons_of_mem _ hl))
  | dk h1 _ ih => exact .dk (h1.move (hL _ List.mem_cons_self) e) (ih fun l hl => hL l (List.mem_cons_of_mem _ hl))
  | tw h1 _ ih => exact .tw (h1.move (hL _ List.mem_cons_self) e) (ih fun l hl => hL l (List.mem_cons_of_mem _ hl))
theorem Slots.get {d : D} : ∀ {σ : List (Option V)} {ρ : List SD} {L : List Addr} {i : Nat}, Slots pr wd K O H σ ρ L → ρ[i]? = some (.val d) → ∃ v, σ[i]? = some (some v) ∧ Rp K (hid O H) v d
  | _, _, _, _, .nil, e => by simp at e
  | _, _, _, 0, .un _, e => by simp at e
  | _, _, _, i + 1, .un s, e => by simpa using Slots.get (i := i) s (by simpa using e)
  | _, _, _, 0, .val h _, e => by simp at e; subst e; exact ⟨_, rfl, h⟩
  | _, _, _, i + 1, .val _ s, e => by simpa using Slots.get (i := i) s (by simpa using e)
  | _, _, _, 0, .own _ _ _, e => by simp at e
  | _, _, _, i + 1, .own _ _ s, e => by simpa using Slots.get (i := i) s (by simpa using e)
  | _, _, _, 0, .dic _ _, e => by simp at e
  | _, _, _, 0, .dk _ _, e => by simp at e
  | _, _, _, 0, .tw _ _, e => by simp at e
  | _, _, _, i + 1, .dic _ s, e => by simpa using Slots.get (i := i) s (by simpa using e)
  | _, _, _, i + 1, .dk _ s, e => by simpa using Slots.get (i := i) s (by simpa using e)
  | _, _, _, i + 1, .tw _ s, e => by simpa using Slots.get (i := i) s (by simpa using e)
theorem Slots.getO {ds : List D} : ∀ {σ : List (Option V)} {ρ : List SD} {L : List Addr} {i : Nat}, Slots pr wd K O H σ ρ L → ρ[i]? = some (.own ds) → ∃ l xs, σ[i]? = some (some (.ref l)) ∧ l ∈ L ∧ H l = some (.lst xs) ∧ RpAll K (hid O H) xs ds
  | _, _, _, _, .nil, e => by simp at e
  | _, _, _, 0, .un _, e => by simp at e
  | _, _, _, i + 1, .un s, e => by simpa using Slots.getO (i := i) s (by simpa using e)
  | _, _, _, 0, .val _ _, e => by simp at e
  | _, _, _, i + 1, .val _ s, e => by simpa using Slots.getO (i := i) s (by simpa using e)
  | _, _, _, 0, .own h r _, e => by simp at e; subst e; exact ⟨_, _, rfl, List.mem_cons_self, h, r⟩
  | _, _, _, i + 1, .own _ _ s, e => by
    obtain ⟨l, xs, h1, h2, h3⟩ := Slots.getO (i := i) s (by simpa using e)
    exact ⟨l, xs, by simpa using h1, List.mem_cons_of_mem _ h2, h3⟩
  | _, _, _, 0, .dic _ _, e => by simp at e
  | _, _, _, 0, .dk _ _, e => by simp at e
  | _, _, _, 0, .tw _ _, e => by simp at e
  | _, _, _, i + 1, .dic _ s, e => by
    obtain ⟨l, xs, h1, h2, h3⟩ := Slots.getO (i := i) s (by simpa using e)
    exact ⟨l, xs, by simpa using h1, List.mem_cons_of_mem _ h2, h3⟩
  | _, _, _, i + 1, .dk _ s, e => by
    obtain ⟨l, xs, h1, h2, h3⟩ := Slots.getO (i := i) s (by simpa using e)
    exact ⟨l, xs, by simpa using h1, List.mem_cons_of_mem _ h2, h3⟩
  | _, _, _, i + 1, .tw _ s, e => by
    obtain ⟨l, xs, h1, h2, h3⟩ := Slots.getO (i := i) s (by simpa using e)
    exact ⟨l, xs, by simpa using h1, List.mem_cons_of_mem _ h2, h3⟩
theorem Slots.getD {kvs : List (D × D)} : ∀ {σ : List (Option V)} {ρ : List SD} {L : List Addr} {i : Nat}, Slots pr wd K O H σ ρ L → ρ[i]? = some (.dic kvs) → ∃ l, σ[i]? = some (some (.ref l)) ∧ l ∈ L ∧ NDict pr wd K O H l kvs
  | _, _, _, _, .nil, e => by simp at e
  | _, _, _, 0, .un _, e => by simp at e
  | _, _, _, i + 1, .un s, e => by simpa using Slots.getD (i := i) s (by simpa using e)
  | _, _, _, 0, .val _ _, e => by simp at e
  | _, _, _, i + 1, .val _ s, e => by simpa using Slots.getD (i := i) s (by simpa using e)
  | _, _, _, 0, .own _ _ _, e => by simp at e
  | _, _, _, i + 1, .own _ _ s, e => by
    obtain ⟨l, h1, h2, h3⟩ := Slots.getD (i := i) s (by simpa using e)
    exact ⟨l, by simpa using h1, List.mem_cons_of_mem _ h2, h3⟩
  | _, _, _, 0, .dic h _, e => by simp at e; subst e; exact ⟨_, rfl, List.mem_cons_self, h⟩
  | _, _, _, 0, .dk h _, e => by simp at e
  | _, _, _, 0, .tw h _, e => by simp at e
  | _, _, _, i + 1, .dic _ s, e => by
    obtain ⟨l, h1, h2, h3⟩ := Slots.getD (i := i) s (by simpa using e)
    exact ⟨l, by simpa using h1, List.mem_cons_of_mem _ h2, h3⟩
  | _, _, _, i + 1, .dk _ s, e => by
    obtain ⟨l, h1, h2, h3⟩ := Slots.getD (i := i) s (by simpa using e)
    exact ⟨l, by simpa using h1, List.mem_cons_of_mem _ h2, h3⟩
  | _, _, _, i + 1, .tw _ s, e => by
    obtain ⟨l, h1, h2, h3⟩ := Slots.getD (i := i) s (by simpa using e)
    exact ⟨l, by simpa using h1, List.mem_cons_of_mem _ h2, h3⟩
/-- a slot forgotten -/
theorem Slots.drop : ∀ {σ : List (Option V)} {ρ : List SD} {L : List Addr} (i : Nat), Slots pr wd K O H σ ρ L → ∃ L', Slots pr wd K O H σ (ρ.set i .un) L' ∧ L'.Sublist L
  | _, _, _, _, .nil => ⟨[], .nil, List.Sublist.refl _⟩
  | _, _, _, 0, .un s => ⟨_, .un s, List.Sublist.refl _⟩
  | _, _, _, 0, .val _ s => ⟨_, .un s, List.Sublist.refl _⟩
  | _, _, _, 0, .own _ _ s => ⟨_, .un s, List.sublist_cons_self _ _⟩
  | _, _, _, i + 1, .un s => by
    obtain ⟨L', h1, h2⟩ := Slots.drop i s
    exact ⟨L', .un h1, h2⟩
  | _, _, _, i + 1, .val h s => by
    obtain ⟨L', h1, h2⟩ := Slots.drop i s
    exact ⟨L', .val h h1, h2⟩
  | _, _, _, i + 1, .own h r s => by
    obtain ⟨L', h1, h2⟩ := Slots.drop i s
    exact ⟨_ :: L', .own h r h1, h2.cons_cons _⟩
  | _, _, _, 0, .dic _ s => ⟨_, .un s, List.sublist_cons_self _ _⟩
  | _, _, _, 0, .dk _ s => ⟨_, .un s, List.sublist_cons_self _ _⟩
  | _, _, _, 0, .tw _ s => ⟨_, .un s, List.sublist_cons_self _ _⟩
  | _, _, _, i + 1, .dic h s => by
    obtain ⟨L', h1, h2⟩ := Slots.drop i s
    exact ⟨_ :: L', .dic h h1, h2.cons_cons _⟩
  | _, _, _, i + 1, .dk h s => by
    obtain ⟨L', h1, h2⟩ := Slots.drop i s
    exact ⟨_ :: L', .dk h h1, h2.cons_cons _⟩
  | _, _, _, i + 1, .tw h s => by
    obtain ⟨L', h1, h2⟩ := Slots.drop i s
    exact ⟨_ :: L', .tw h h1, h2.cons_cons _⟩
theorem Slots.set {v : V} {d : D} (hv : Rp K (hid O H) v d) : ∀ {σ : List (Option V)} {ρ : List SD} {L : List Addr} (i : Nat), Slots pr wd K O H σ ρ L → ∃ L', Slots pr wd K O H (σ.set i (some v)) (ρ.set i (.val d)) L' ∧ L'.Sublist L
  | _, _, _, _, .nil => ⟨[], .nil, List.Sublist.refl _⟩
  | _, _, _, 0, .un s => ⟨_, .val hv s, List.Sublist.refl _⟩
  | _, _, _, 0, .val _ s => ⟨_, .val hv s, List.Sublist.refl _⟩
  | _, _, _, 0, .own _ _ s => ⟨_, .val hv s, List.sublist_cons_self _ _⟩
  | _, _, _, i + 1, .un s => by
    obtain ⟨L', h1, h2⟩ := Slots.set hv i s
    exact ⟨L', .un h1, h2⟩
  | _, _, _, i + 1, .val h s => by
    obtain ⟨L', h1, h2⟩ := Slots.set hv i s
    exact ⟨L', .val h h1, h2⟩
  | _, _, _, i + 1, .own h r s => by
    obtain ⟨L', h1, h2⟩ := Slots.set hv i s
    exact ⟨_ :: L', .own h r h1, h2.cons_cons _⟩
  | _, _, _, 0, .dic _ s => ⟨_, .val hv s, List.sublist_cons_self _ _⟩
  | _, _, _, 0, .dk _ s => ⟨_, .val hv s, List.sublist_cons_self _ _⟩
  | _, _, _, 0, .tw _ s => ⟨_, .val hv s, List.sublist_cons_self _ _⟩
  | _, _, _, i + 1, .dic h s => by
    obtain ⟨L', h1, h2⟩ := Slots.set hv i s
    exact ⟨_ :: L', .dic h h1, h2.cons_cons _⟩
  | _, _, _, i + 1, .dk h s => by
    obtain ⟨L', h1, h2⟩ := Slots.set hv i s
    exact ⟨_ :: L', .dk h h1, h2.cons_cons _⟩
  | _, _, _, i + 1, .tw h s => by
    obtain ⟨L', h1, h2⟩ := Slots.set hv i s
    exact ⟨_ :: L', .tw h h1, h2.cons_cons _⟩
theorem Slots.setO {l : Addr} {xs : List V} {ds : List D} (hl : H l = some (.lst xs)) (hx : RpAll K (hid O H) xs ds) (hn : l ∉ L) : ∀ {σ : List (Option V)} {ρ : List SD} {L : List Addr} (i : Nat), i < ρ.length → Slots pr wd K O H σ ρ L →
    ∃ L1 L2 L3, Slots pr wd K O H (σ.set i (some (.ref l))) (ρ.set i (.own ds)) (L1 ++ l :: L2) ∧ L = L1 ++ L3 ∧ L2.Sublist L3
  | _, _, _, _, h, .nil => by simp at h
  | _, _, L, 0, _, .un s => ⟨[], L, L, .own hl hx s, rfl, List.Sublist.refl _⟩
  | _, _, L, 0, _, .val _ s => ⟨[], L, L, .own hl hx s, rfl, List.Sublist.refl _⟩
  | _, _, _ :: L, 0, _, .own _ _ s => ⟨[], L, _, .own hl hx s, rfl, List.sublist_cons_self _ _⟩
  | _, _, _, i + 1, h, .un s => by
    obtain ⟨L1, L2, L3, h1, h2⟩ := Slots.setO hl hx hn i (by simpa using h) s
    exact ⟨L1, L2, L3, .un h1, h2⟩
  | _, _, _, i + 1, h, .val q s => by
    obtain ⟨L1, L2, L3, h1, h2⟩ := Slots.setO hl hx hn i (by simpa using h) s
    exact ⟨L1, L2, L3, .val q h1, h2⟩
  | _, _, _, i + 1, h, .own q r s => by
    obtain ⟨L1, L2, L3, h1, h2, h3⟩ := Slots.setO hl hx hn i (by simpa using h) s
    exact ⟨_ :: L1, L2, L3, .own q r h1, by rw [h2]; rfl, h3⟩
  | _, _, _ :: L, 0, _, .dic _ s => ⟨[], L, _, .own hl hx s, rfl, List.sublist_cons_self _ _⟩
  | _, _, _ :: L, 0, _, .dk _ s => ⟨[], L, _, .own hl hx s, rfl, List.sublist_cons_self _ _⟩
  | _, _, _ :: L, 0, _, .tw _ s => ⟨[], L, _, .own hl hx s, rfl, List.sublist_cons_self _ _⟩
  | _, _, _, i + 1, h, .dic q s => by
    obtain ⟨L1, L2, L3, h1, h2, h3⟩ := Slots.setO hl hx hn i (by simpa using h) s
    exact ⟨_ :: L1, L2, L3, .dic q h1, by rw [h2]; rfl, h3⟩
  | _, _, _, i + 1, h, .dk q s => by
    obtain ⟨L1, L2, L3, h1, h2, h3⟩ := Slots.setO hl hx hn i (by simpa using h) s
    exact ⟨_ :: L1, L2, L3, .dk q h1, by rw [h2]; rfl, h3⟩
  | _, _, _, i + 1, h, .tw q s => by
    obtain ⟨L1, L2, L3, h1, h2, h3⟩ := Slots.setO hl hx hn i (by simpa using h) s
    exact ⟨_ :: L1, L2, L3, .tw q h1, by rw [h2]; rfl, h3⟩
theorem Slots.setN {l : Addr} {kvs : List (D × D)} (hx : NDict pr wd K O H l kvs) (hn : l ∉ L) : ∀ {σ : List (Option V)} {ρ : List SD} {L : List Addr} (i : Nat), i < ρ.length → Slots pr wd K O H σ ρ L →
    ∃ L1 L2 L3, Slots pr wd K O H (σ.set i (some (.ref l))) (ρ.set i (.dic kvs)) (L1 ++ l :: L2) ∧ L = L1 ++ L3 ∧ L2.Sublist L3
  | _, _, _, _, h, .nil => by simp at h
  | _, _, L, 0, _, .un s => ⟨[], L, L, .dic hx s, rfl, List.Sublist.refl _⟩
  | _, _, L, 0, _, .val _ s => ⟨[], L, L, .dic hx s, rfl, List.Sublist.refl _⟩
  | _, _, _ :: L, 0, _, .own _ _ s => ⟨[], L, _, .dic hx s, rfl, List.sublist_cons_self _ _⟩
  | _, _, _ :: L, 0, _, .dic _ s => ⟨[], L, _, .dic hx s, rfl, List.sublist_cons_self _ _⟩
  | _, _, _ :: L, 0, _, .dk _ s => ⟨[], L, _, .dic hx s, rfl, List.sublist_cons_self _ _⟩
  | _, _, _ :: L, 0, _, .tw _ s => ⟨[], L, _, .dic hx s, rfl, List.sublist_cons_self _ _⟩
  | _, _, _, i + 1, h, .un s => by
    obtain ⟨L1, L2, L3, h1, h2⟩ := Slots.setN hx hn i (by simpa using h) s
    exact ⟨L1, L2, L3, .un h1, h2⟩
  | _, _, _, i + 1, h, .val q s => by
    obtain ⟨L1, L2, L3, h1, h2⟩ := Slots.setN hx hn i (by simpa using h) s
    exact ⟨L1, L2, L3, .val q h1, h2⟩
  | _, _, _, i + 1, h, .own q r s => by
    obtain ⟨L1, L2, L3, h1, h2, h3⟩ := Slots.setN hx hn i (by simpa using h) s
    exact ⟨_ :: L1, L2, L3, .own q r h1, by rw [h2]; rfl, h3⟩
  | _, _, _, i + 1, h, .dic q s => by
    obtain ⟨L1, L2, L3, h1, h2, h3⟩ := Slots.setN hx hn i (by simpa using h) s
    exact ⟨_ :: L1, L2, L3, .dic q h1, by rw [h2]; rfl, h3⟩
  | _, _, _, i + 1, h, .dk q s => by
    obtain ⟨L1, L2, L3, h1, h2, h3⟩ := Slots.setN hx hn i (by simpa using h) s
    exact ⟨_ :: L1, L2, L3, .dk q h1, by rw [h2]; rfl, h3⟩
  | _, _, _, i + 1, h, .tw q s => by
    obtain ⟨L1, L2, L3, h1, h2, h3⟩ := Slots.setN hx hn i (by simpa using h) s
    exact ⟨_ :: L1, L2, L3, .tw q h1, by rw [h2]; rfl, h3⟩
end

theorem Slots.lists {pr : Program} {wd : World} {K : PySem.W.Frag} {O : List Addr} {H : Hp} {σ : List (Option V)} {ρ : List SD} {L : List Addr} (s : Slots pr wd K O H σ ρ L) : ∀ l ∈ L, ∃ o, H l = some o := by
  induction s with
  | nil => intro l h; cases h
  | un _ ih => exact ih
  | val _ _ ih => exact ih
  | own h _ _ ih =>
    intro l hl
    rcases List.mem_cons.mp hl with e | e
    · subst e; exact ⟨_, h⟩
    · exact ih l e
  | dic h _ ih =>
    intro l hl
    rcases List.mem_cons.mp hl with e | e
    · subst e; obtain ⟨xs, h1, _⟩ := h; exact ⟨_, h1⟩
    · exact ih l e
  | dk h _ ih =>
    intro l hl
    rcases List.mem_cons.mp hl with e | e
    · subst e; obtain ⟨xs, h1, _⟩ := h; exact ⟨_, h1⟩
    · exact ih l e
  | tw h _ ih =>
    intro l hl
    rcases List.mem_cons.mp hl with e | e
    · subst e; obtain ⟨xs, _, _, _, h1, _⟩ := h; exact ⟨_, h1⟩
    · exact ih l e
section
variable {c : Ctx} {P : Hp} {L : List Addr} {n n' : Nat} {H H' : Hp} {σ : List (Option V)} {ρ : List SD}
theorem mem_B {b : Addr} : b ∈ c.B ↔ ∃ q, c.bag = some (b, q) := by
  unfold Ctx.B
  cases c.bag with
  | none => simp
  | some x =>
    obtain ⟨x1, x2⟩ := x
    simp [eq_comm]
theorem Env.inO (E : Env c P L n H σ ρ) {b : Addr} (h : b ∈ c.B) : b ∈ c.O := by
  obtain ⟨q, e⟩ := mem_B.mp h
  exact (E.bO b q e).1
theorem Env.notB (E : Env c P L n H σ ρ) {l : Addr} (h : l ∈ L) : l ∉ c.B := fun q => (E.fresh l h).2 (E.inO q)
theorem Env.BLO (E : Env c P L n H σ ρ) : ∀ a, a ∈ c.B → a ∈ L ++ c.O := fun a h => List.mem_append_right _ (E.inO h)
theorem Env.sameLO (E : Env c P L n H σ ρ) (e : Same (hid c.B H) (hid c.B H')) : Same (hid (L ++ c.O) H) (hid (L ++ c.O) H') := same_hid_more E.BLO e
theorem Env.own (E : Env c P L n H σ ρ) (e : Same (hid c.B H) (hid c.B H')) : ∀ l ∈ L, H' l = H l := fun l hl => by
  obtain ⟨xs, h⟩ := E.lst l hl
  rw [h]
  exact (hid_some.mp (e l _ (hid_some.mpr ⟨E.notB hl, h⟩))).2
/-- an expression's step -/
theorem Env.step (E : Env c P L n H σ ρ) (e : Same (hid c.B H) (hid c.B H')) (j : c.J n' H') : Env c P L n' H' σ ρ where
  nd := E.nd
  fresh := E.fresh
  slots := by
    obtain ⟨Ls, s, sub⟩ := E.slots
    exact ⟨Ls, s.move (fun l hl => E.own e l (sub.subset hl)) (E.sameLO e), sub⟩
  lst := fun l hl => by
    rw [E.own e l hl]
    exact E.lst l hl
  bag := j
  base := E.base.trans e
  pers := E.pers.trans (E.sameLO e)
  bO := E.bO
  al := fun o ho => by
    by_cases hb : o ∈ c.B
    · obtain ⟨q, hq⟩ := mem_B.mp hb
      obtain ⟨xs, h⟩ := (j o q hq).lst
      rw [h]; exact fun q => by cases q
    · cases h : H o with
      | none => exact absurd h (E.al o ho)
      | some u =>
        rw [(hid_some.mp (e o u (hid_some.mpr ⟨hb, h⟩))).2]
        exact fun q => by cases q
/-- where all stands and new things may have come -/
theorem Env.same (E : Env c P L n H σ ρ) (e : Same H H') : Same (hid c.B H) (hid c.B H') ∧ c.J n H' :=
  ⟨same_hid_of e, fun b q hb => (E.bag b q hb).move (fun o h => e b o h) fun o h => e q o h⟩
theorem Env.new (E : Env c P L n H σ ρ) {p : Addr} (h : H p = none) : c.H0 p = none ∧ p ∉ c.O ∧ p ∉ L := by
  have h1 : p ∉ c.O := fun q => E.al p q h
  refine ⟨?_, h1, fun q => ?_⟩
  · cases e : c.H0 p with
    | none => rfl
    | some u =>
      have := (hid_some.mp (E.base p u (hid_some.mpr ⟨fun q => h1 (E.inO q), e⟩))).2
      rw [h] at this; cases this
  · obtain ⟨xs, e⟩ := E.lst p q
    rw [h] at e; cases e
theorem Env.pers' (E : Env c P L n H σ ρ) : Env c (hid (L ++ c.O) H) L n H σ ρ := { E with pers := Same.refl _ }
theorem Env.persOf {P' : Hp} (E : Env c P L n H σ ρ) (h : Same P' P) : Env c P' L n H σ ρ := { E with pers := h.trans E.pers }
/-- other slots over the same or a smaller set of owned lists -/
theorem Env.reslot {L' : List Addr} {σ' : List (Option V)} {ρ' : List SD} (E : Env c P L n H σ ρ) (s : Slots c.pr c.wd c.K (L ++ c.O) H σ' ρ' L') (h : L'.Sublist L) : Env c P L n H σ' ρ' :=
  { E with slots := ⟨L', s, h⟩ }
end
end L3
/-! L3b: the judgements over data, and their rules. -/
namespace L3
open PySem L2

abbrev Ph := Nat → D → Prop
abbrev ER := List (Option V)
def WE (c : Ctx) (te : TE) (ρ : List SD) (n : Nat) (Φ : Nat → D → Prop) : Prop :=
  ∀ P L σ H Q, Env c P L n H σ ρ → (∀ v d n' H', Same (hid c.B H) (hid c.B H') → c.J n' H' → Rp c.K (hid (L ++ c.O) H') v d → Φ n' d → Q v H') → te σ H Q
def WT (c : Ctx) (tt : TT) (ρ : List SD) (n : Nat) (Φ : Nat → Bool → Prop) : Prop :=
  ∀ P L σ H Q, Env c P L n H σ ρ → (∀ b n' H', Same (hid c.B H) (hid c.B H') → c.J n' H' → Φ n' b → Q b H') → tt σ H Q
def WA (c : Ctx) (ta : TA) (ρ : List SD) (n : Nat) (Φ : Nat → List D → Prop) : Prop :=
  ∀ P L σ H Q, Env c P L n H σ ρ → (∀ vs ds n' H', Same (hid c.B H) (hid c.B H') → c.J n' H' → RpAll c.K (hid (L ++ c.O) H') vs ds → Φ n' ds → Q vs H') → ta σ H Q
/-- a part of a slice -/
def WO (c : Ctx) (to : TO) (ρ : List SD) (n : Nat) (Φ : Nat → Option Int → Prop) : Prop :=
  ∀ P L σ H Q, Env c P L n H σ ρ → (∀ o n' H', Same (hid c.B H) (hid c.B H') → c.J n' H' → Φ n' o → Q o H') → to σ H Q
/-- a new list -/
def WF (c : Ctx) (te : TE) (ρ : List SD) (n : Nat) (Φ : Nat → List D → Prop) : Prop :=
  ∀ P L σ H Q, Env c P L n H σ ρ → (∀ p xs ds n' H', Same (hid c.B H) (hid c.B H') → H p = none → H' p = some (.lst xs) → RpAll c.K (hid (p :: (L ++ c.O)) H') xs ds → c.J n' H' → Φ n' ds → Q (.ref p) H') → te σ H Q
structure Out where
  nx : Nat → List SD → Prop
  rt : Nat → D → Prop
  bk : Nat → List SD → Prop := fun _ _ => False
  ct : Nat → List SD → Prop := fun _ _ => False
structure Acc (c : Ctx) (P : Hp) (Ψ : Out) (Dn : Ends) : Prop where
  nx : ∀ L n H σ ρ, Env c P L n H σ ρ → Ψ.nx n ρ → Dn.nx σ H
  rt : ∀ v d n H, Same (hid c.B c.H0) (hid c.B H) → c.J n H → Rp c.K (hid c.O H) v d → Ψ.rt n d → Dn.rt v H
  bk : ∀ L n H σ ρ, Env c P L n H σ ρ → Ψ.bk n ρ → Dn.bk σ H
  ct : ∀ L n H σ ρ, Env c P L n H σ ρ → Ψ.ct n ρ → Dn.ct σ H
def WS (c : Ctx) (ts : TS) (ρ : List SD) (n : Nat) (Ψ : Out) : Prop :=
  ∀ P L σ H Dn, Env c P L n H σ ρ → Acc c P Ψ Dn → ts Dn σ H
def WG (c : Ctx) (R : ER → ER → Prop) (g : TG) (d : D) (ρ : List SD) (n : Nat) (Φ : List SD → Prop) : Prop :=
  ∀ P L σ H v Q, Env c P L n H σ ρ → Rp c.K (hid (L ++ c.O) H) v d → (∀ σ' ρ', Env c P L n H σ' ρ' → R σ σ' → Φ ρ' → Q σ' H) → g v σ H Q
def WGs (c : Ctx) (R : ER → ER → Prop) (g : TGs) (ds : List D) (ρ : List SD) (n : Nat) (Φ : List SD → Prop) : Prop :=
  ∀ P L σ H vs Q, Env c P L n H σ ρ → RpAll c.K (hid (L ++ c.O) H) vs ds → (∀ σ' ρ', Env c P L n H σ' ρ' → R σ σ' → Φ ρ' → Q σ' H) → g vs σ H Q
/-- a walk over these data -/
structure ItOk (c : Ctx) (J : It) (ds : List D) (P : Hp) : Prop where
  go : ∀ L n H σ ρ, Env c P L n H σ ρ → ∀ i d, ds[i]? = some d → J.go i H ∧ ∀ x H', J.yld i H x H' → Same H H' ∧ Rp c.K (hid (L ++ c.O) H') x d
  stop : ∀ L n H σ ρ, Env c P L n H σ ρ → ∀ i, ds.length ≤ i → J.stop i H
def WI (c : Ctx) (wi : TI) (ρ : List SD) (n : Nat) (Φ : Nat → List D → Prop) : Prop :=
  ∀ P L σ H R, Env c P L n H σ ρ → (∀ J ds n' H', Same (hid c.B H) (hid c.B H') → c.J n' H' → ItOk c J ds (hid (L ++ c.O) H') → Φ n' ds → R J H') → wi σ H R

section
variable {c : Ctx} {ρ : List SD} {n : Nat} {ta tb te : TE} {t u : TT} {as : TA} {Φ : Nat → D → Prop} {Ψ : Out} {ts us : TS}

/-! ### steps -/
theorem Env.up {P : Hp} {L : List Addr} {n n' : Nat} {H H' H2 : Hp} {σ : List (Option V)} {ρ : List SD} (E : Env c P L n H σ ρ) (e : Same (hid c.B H) (hid c.B H')) {v : V} {d : D} (h : Rp c.K (hid (L ++ c.O) H) v d) : Rp c.K (hid (L ++ c.O) H') v d := h.mono (E.sameLO e)
theorem Env.ups {P : Hp} {L : List Addr} {n n' : Nat} {H H' H2 : Hp} {σ : List (Option V)} {ρ : List SD} (E : Env c P L n H σ ρ) (e : Same (hid c.B H) (hid c.B H')) {v : List V} {d : List D} (h : RpAll c.K (hid (L ++ c.O) H) v d) : RpAll c.K (hid (L ++ c.O) H') v d := h.mono (E.sameLO e)

theorem Env.noO {P : Hp} {L : List Addr} {n : Nat} {H : Hp} {σ : List (Option V)} (E : Env c P L n H σ ρ) : ∀ p, H p = none → p ∉ L ++ c.O := fun p hp q => by
  have w := E.new hp
  rcases List.mem_append.mp q with q | q
  · exact w.2.2 q
  · exact w.2.1 q
/-! ### expressions -/
theorem we_var {i : Nat} {d : D} (h : ρ[i]? = some (.val d)) (k : Φ n d) : WE c (tVar i) ρ n Φ := fun P L σ H Q E q => by
  obtain ⟨Ls, sl, _⟩ := E.slots
  obtain ⟨v, h1, h2⟩ := sl.get h
  exact ⟨v, h1, q v d n H (Same.refl _) E.bag h2 k⟩
theorem we_int {i : Int} (k : Φ n (.int i)) : WE c (tC (.int i)) ρ n Φ := fun P L σ H Q E q => q _ _ n H (Same.refl _) E.bag (.int i) k
theorem we_str {x : Str} (k : Φ n (.str x)) : WE c (tC (.str x)) ρ n Φ := fun P L σ H Q E q => q _ _ n H (Same.refl _) E.bag (.str x) k
theorem we_bl {b : Bool} (k : Φ n (.bl b)) : WE c (tC (.bl b)) ρ n Φ := fun P L σ H Q E q => q _ _ n H (Same.refl _) E.bag (.bl b) k
theorem we_non (k : Φ n .non) : WE c (tC .non) ρ n Φ := fun P L σ H Q E q => q _ _ n H (Same.refl _) E.bag .non k
/-- two expressions in a row, then what is asked of their values -/
def R2D (K : PySem.W.Frag) (r : R2) (d e : D) (Φ : D → Prop) : Prop := ∀ (O : List Addr) (H : Hp) (x y : V) (Q : VK), Rp K (hid O H) x d → Rp K (hid O H) y e → (∀ p, H p = none → p ∉ O) → (∀ v f H', Same H H' → Rp K (hid O H') v f → Φ f → Q v H') → r x y H Q
theorem we_op {r : R2} (h : WE c ta ρ n fun n1 d => WE c tb ρ n1 fun n2 e => R2D c.K r d e (Φ n2)) : WE c (tOp r ta tb) ρ n Φ := fun P L σ H Q E q => by
  refine h P L σ H _ E fun x d n1 H1 s1 j1 r1 h1 => ?_
  refine h1 P L σ H1 _ (E.step s1 j1) fun y e n2 H2 s2 j2 r2 h2 => ?_
  have E2 := (E.step s1 j1).step s2 j2
  refine h2 (L ++ c.O) H2 x y Q ((E.step s1 j1).up (n' := 0) (H2 := H) s2 r1) r2 E2.noO fun v f H' s r k => ?_
  have z := E2.same s
  exact q v f n2 H' ((s1.trans s2).trans z.1) z.2 r k
theorem we_un {r : V → Hp → VK → Prop} (h : WE c ta ρ n fun n1 d => ∀ (O : List Addr) (H : Hp) (x : V) (Q : VK), Rp c.K (hid O H) x d → (∀ p, H p = none → p ∉ O) → (∀ v f H', Same H H' → Rp c.K (hid O H') v f → Φ n1 f → Q v H') → r x H Q) : WE c (tUn r ta) ρ n Φ := fun P L σ H Q E q => by
  refine h P L σ H _ E fun x d n1 H1 s1 j1 r1 h1 => ?_
  refine h1 (L ++ c.O) H1 x Q r1 (E.step s1 j1).noO fun v f H' s r k => ?_
  have z := (E.step s1 j1).same s
  exact q v f n1 H' (s1.trans z.1) z.2 r k
/-- an int operation -/
theorem r2_int {K : PySem.W.Frag} {C : Int → Int → Prop} {g : Int → Int → V} {h : Int → Int → D} (hg : ∀ (H : Hp) i j, Rp K H (g i j) (h i j)) {i j : Int} {Φ : D → Prop} (hc : C i j) (k : Φ (h i j)) : R2D K (rI C g) (.int i) (.int j) Φ := fun O H x y Q rx ry _ q => by
  cases rx
  cases ry
  exact ⟨i, j, rfl, rfl, hc, q _ _ H (Same.refl _) (hg _ i j) k⟩
theorem r2_int0 {K : PySem.W.Frag} {g : Int → Int → V} {h : Int → Int → D} (hg : ∀ (H : Hp) i j, Rp K H (g i j) (h i j)) {i j : Int} {Φ : D → Prop} (k : Φ (h i j)) : R2D K (rI0 g) (.int i) (.int j) Φ := fun O H x y Q rx ry _ q => by
  cases rx
  cases ry
  exact ⟨i, j, rfl, rfl, q _ _ H (Same.refl _) (hg _ i j) k⟩
theorem r2_eq {K : PySem.W.Frag} {d e : D} {b : Bool} {Φ : D → Prop} (hs : ∀ (H : Hp) x y, Rp K H x d → Rp K H y e → scal x y = true ∧ decide (x = y) = b) (k : Φ (.bl b)) : R2D K rEq d e Φ := fun O H x y Q rx ry _ q => by
  obtain ⟨h1, h2⟩ := hs _ x y rx ry
  exact ⟨h1, by rw [h2]; exact q _ _ H (Same.refl _) (.bl b) k⟩
theorem r2_ne {K : PySem.W.Frag} {d e : D} {b : Bool} {Φ : D → Prop} (hs : ∀ (H : Hp) x y, Rp K H x d → Rp K H y e → scal x y = true ∧ (!decide (x = y)) = b) (k : Φ (.bl b)) : R2D K rNe d e Φ := fun O H x y Q rx ry _ q => by
  obtain ⟨h1, h2⟩ := hs _ x y rx ry
  exact ⟨h1, by rw [h2]; exact q _ _ H (Same.refl _) (.bl b) k⟩
/-- a value as a test -/
theorem wt_B {Φ : Nat → Bool → Prop} (h : WE c te ρ n fun n1 d => ∃ b, d = .bl b ∧ Φ n1 b) : WT c (tB te) ρ n Φ := fun P L σ H Q E q => by
  refine h P L σ H _ E fun x d n1 H1 s1 j1 r1 ⟨b, e, k⟩ => ?_
  subst e
  cases r1
  exact ⟨b, rfl, q b n1 H1 s1 j1 k⟩
theorem wt_test {Φ : Nat → Bool → Prop} (h : WE c te ρ n fun n1 d => ∃ b, d = .bl b ∧ Φ n1 b) : WT c (tTest te) ρ n Φ := wt_B h
/-- truth -/
def tru : D → Option Bool
  | .non => some false
  | .bl b => some b
  | .int i => some (i != 0)
  | .str x => if x.length ≤ sizeLine then some ((x.length : Int) != 0) else none
  | .lst xs => some (!xs.isEmpty)
  | .tup xs => some (!xs.isEmpty)
  | _ => none
theorem tru_V {K : PySem.W.Frag} {H : Hp} {O : List Addr} {x : V} {d : D} {b : Bool} (r : Rp K (hid O H) x d) (h : tru d = some b) : TruV K x H b := by
  cases r with
  | non => exact (Option.some.inj h).symm
  | bl b => exact (Option.some.inj h).symm
  | int i => exact (Option.some.inj h).symm
  | str x =>
    by_cases hx : x.length ≤ sizeLine
    · have h' : (if x.length ≤ sizeLine then some ((x.length : Int) != 0) else none) = some b := h
      rw [if_pos hx] at h'
      exact ⟨hx, (Option.some.inj h').symm⟩
    · have h' : (if x.length ≤ sizeLine then some ((x.length : Int) != 0) else none) = some b := h
      rw [if_neg hx] at h'
      cases h'
  | lst hs ha =>
    refine .inl ⟨_, .inl (same_rd same_hid hs), ?_⟩
    rw [← Option.some.inj h]
    cases ha <;> rfl
  | tup hs ha =>
    refine .inr (.inl ⟨_, same_t same_hid hs, ?_⟩)
    rw [← Option.some.inj h]
    cases ha <;> rfl
  | obj h1 _ => cases h
  | adr a => cases h
  | ty n => cases h
  | dct _ _ => cases h
  | dcn _ _ _ => cases h
theorem wt_tru {Φ : Nat → Bool → Prop} (h : WE c te ρ n fun n1 d => ∃ b, tru d = some b ∧ Φ n1 b) : WT c (fun σ H Q => te σ H fun x H' => ∃ k, TruV c.K x H' k ∧ Q k H') ρ n Φ := fun P L σ H Q E q => by
  refine h P L σ H _ E fun x d n1 H1 s1 j1 r1 ⟨b, e, k⟩ => ?_
  exact ⟨b, tru_V r1 e, q b n1 H1 s1 j1 k⟩
theorem wt_and {Φ : Nat → Bool → Prop} (h : WT c t ρ n fun n1 b => if b = true then WT c u ρ n1 Φ else Φ n1 false) : WT c (tAnd t u) ρ n Φ := fun P L σ H Q E q => by
  refine h P L σ H _ E fun b n1 H1 s1 j1 k => ?_
  cases b with
  | true =>
    rw [if_pos rfl] at k
    show u σ H1 Q
    exact k P L σ H1 Q (E.step s1 j1) fun b n2 H2 s2 j2 k2 => q b n2 H2 (s1.trans s2) j2 k2
  | false =>
    rw [if_neg Bool.false_ne_true] at k
    exact q false n1 H1 s1 j1 k
theorem wt_or {Φ : Nat → Bool → Prop} (h : WT c t ρ n fun n1 b => if b = true then Φ n1 true else WT c u ρ n1 Φ) : WT c (tOr t u) ρ n Φ := fun P L σ H Q E q => by
  refine h P L σ H _ E fun b n1 H1 s1 j1 k => ?_
  cases b with
  | true =>
    rw [if_pos rfl] at k
    exact q true n1 H1 s1 j1 k
  | false =>
    rw [if_neg Bool.false_ne_true] at k
    show u σ H1 Q
    exact k P L σ H1 Q (E.step s1 j1) fun b n2 H2 s2 j2 k2 => q b n2 H2 (s1.trans s2) j2 k2
theorem wt_not {Φ : Nat → Bool → Prop} (h : WT c t ρ n fun n1 b => Φ n1 (!b)) : WT c (tNot t) ρ n Φ := fun P L σ H Q E q => h P L σ H _ E fun b n1 H1 s1 j1 k => q (!b) n1 H1 s1 j1 k
theorem wt_yes {Φ : Nat → Bool → Prop} (k : Φ n true) : WT c tYes ρ n Φ := fun P L σ H Q E q => q true n H (Same.refl _) E.bag k
theorem we_not (h : WE c ta ρ n fun n1 d => ∃ b, d = .bl b ∧ Φ n1 (.bl (!b))) : WE c (tNotV ta) ρ n Φ := fun P L σ H Q E q => by
  refine h P L σ H _ E fun x d n1 H1 s1 j1 r1 ⟨b, e, k⟩ => ?_
  subst e
  cases r1
  exact ⟨b, rfl, q _ _ n1 H1 s1 j1 (.bl _) k⟩
theorem we_and (h : WE c ta ρ n fun n1 d => ∃ b, d = .bl b ∧ if b = true then WE c tb ρ n1 Φ else Φ n1 (.bl false)) : WE c (tAndV ta tb) ρ n Φ := fun P L σ H Q E q => by
  refine h P L σ H _ E fun x d n1 H1 s1 j1 r1 ⟨b, e, k⟩ => ?_
  subst e
  cases r1
  refine ⟨b, rfl, ?_⟩
  cases b with
  | true =>
    rw [if_pos rfl] at k ⊢
    exact k P L σ H1 Q (E.step s1 j1) fun v d n2 H2 s2 j2 r2 k2 => q v d n2 H2 (s1.trans s2) j2 r2 k2
  | false =>
    rw [if_neg Bool.false_ne_true] at k ⊢
    exact q _ _ n1 H1 s1 j1 (.bl _) k
theorem we_or (h : WE c ta ρ n fun n1 d => ∃ b, d = .bl b ∧ if b = true then Φ n1 (.bl true) else WE c tb ρ n1 Φ) : WE c (tOrV ta tb) ρ n Φ := fun P L σ H Q E q => by
  refine h P L σ H _ E fun x d n1 H1 s1 j1 r1 ⟨b, e, k⟩ => ?_
  subst e
  cases r1
  refine ⟨b, rfl, ?_⟩
  cases b with
  | true =>
    rw [if_pos rfl] at k ⊢
    exact q _ _ n1 H1 s1 j1 (.bl _) k
  | false =>
    rw [if_neg Bool.false_ne_true] at k ⊢
    exact k P L σ H1 Q (E.step s1 j1) fun v d n2 H2 s2 j2 r2 k2 => q v d n2 H2 (s1.trans s2) j2 r2 k2
theorem we_if (h : WT c t ρ n fun n1 b => if b = true then WE c ta ρ n1 Φ else WE c tb ρ n1 Φ) : WE c (tIf t ta tb) ρ n Φ := fun P L σ H Q E q => by
  refine h P L σ H _ E fun b n1 H1 s1 j1 k => ?_
  cases b with
  | true =>
    rw [if_pos rfl] at k ⊢
    exact k P L σ H1 Q (E.step s1 j1) fun v d n2 H2 s2 j2 r2 k2 => q v d n2 H2 (s1.trans s2) j2 r2 k2
  | false =>
    rw [if_neg Bool.false_ne_true] at k ⊢
    exact k P L σ H1 Q (E.step s1 j1) fun v d n2 H2 s2 j2 r2 k2 => q v d n2 H2 (s1.trans s2) j2 r2 k2
/-- is None -/
def isNon : D → Bool
  | .non => true
  | _ => false
theorem isNon_V {K : PySem.W.Frag} {H : Hp} {x : V} {d : D} (r : Rp K H x d) : decide (x = .non) = isNon d := by
  cases r <;> first | rfl | exact decide_eq_false (fun e => by cases e)
theorem we_isN (h : WE c ta ρ n fun n1 d => Φ n1 (.bl (isNon d))) : WE c (tIsN ta) ρ n Φ := fun P L σ H Q E q => by
  refine h P L σ H _ E fun x d n1 H1 s1 j1 r1 k => ?_
  rw [isNon_V r1]
  exact q _ _ n1 H1 s1 j1 (.bl _) k
theorem we_notN (h : WE c ta ρ n fun n1 d => Φ n1 (.bl (!isNon d))) : WE c (tNotN ta) ρ n Φ := fun P L σ H Q E q => by
  refine h P L σ H _ E fun x d n1 H1 s1 j1 r1 k => ?_
  rw [isNon_V r1]
  exact q _ _ n1 H1 s1 j1 (.bl _) k

/-! ### arguments, displays -/
theorem wa_nil {Φ : Nat → List D → Prop} (k : Φ n []) : WA c tNil ρ n Φ := fun P L σ H Q E q => q [] [] n H (Same.refl _) E.bag .nil k
theorem wa_cons {Φ : Nat → List D → Prop} (h : WE c ta ρ n fun n1 d => WA c as ρ n1 fun n2 ds => Φ n2 (d :: ds)) : WA c (tCons ta as) ρ n Φ := fun P L σ H Q E q => by
  refine h P L σ H _ E fun x d n1 H1 s1 j1 r1 h1 => ?_
  have E1 := E.step s1 j1
  refine h1 P L σ H1 _ E1 fun vs ds n2 H2 s2 j2 r2 k => ?_
  exact q _ _ n2 H2 (s1.trans s2) j2 (.cons (E1.up (n' := 0) (H2 := H) s2 r1) r2) k
theorem Env.newT {P : Hp} {L : List Addr} {n : Nat} {H : Hp} {σ : List (Option V)} {p : Addr} {o : HO} (E : Env c P L n H σ ρ) (hp : H p = none) : Same (hid c.B H) (hid c.B (upd H p o)) ∧ c.J n (upd H p o) ∧ p ∉ L ++ c.O := by
  have z := E.same (same_upd_new (o := o) hp)
  have w := E.new hp
  exact ⟨z.1, z.2, fun q => by rcases List.mem_append.mp q with q | q; exact w.2.2 q; exact w.2.1 q⟩
theorem rp_upd {K : PySem.W.Frag} {O : List Addr} {H : Hp} {p : Addr} {o : HO} (hp : H p = none) : Same (hid O H) (hid O (upd H p o)) := same_hid_of (same_upd_new hp)
theorem hid_at {O : List Addr} {H : Hp} {p : Addr} {o : HO} (hp : p ∉ O) : hid O (upd H p o) p = some o := by rw [hid_out hp, upd_same]
theorem we_tup (h : WA c as ρ n fun n1 ds => ds.length ≤ sizeLine ∧ Φ n1 (.tup ds)) : WE c (tTup as) ρ n Φ := fun P L σ H Q E q => by
  refine h P L σ H _ E fun vs ds n1 H1 s1 j1 r1 ⟨hz, k⟩ => ?_
  refine ⟨by rw [r1.length]; exact hz, fun p hp => ?_⟩
  have z := (E.step s1 j1).newT (o := .tup vs) hp
  exact q _ _ n1 _ (s1.trans z.1) z.2.1 (.tup (.inl (.inl (hid_at z.2.2))) (r1.mono (rp_upd (K := c.K) hp))) k
theorem wf_lst {Φ : Nat → List D → Prop} (h : WA c as ρ n fun n1 ds => ds.length ≤ sizeLine ∧ Φ n1 ds) : WF c (tLst as) ρ n Φ := fun P L σ H Q E q => by
  refine h P L σ H _ E fun vs ds n1 H1 s1 j1 r1 ⟨hz, k⟩ => ?_
  refine ⟨by rw [r1.length]; exact hz, fun p hp => ?_⟩
  have E1 := E.step s1 j1
  refine q p vs ds n1 _ (s1.trans (E1.newT hp).1) ?_ upd_same (by rw [hid_new_in hp]; exact r1) (E1.newT hp).2.1 k
  cases e : H p with
  | none => rfl
  | some o =>
    by_cases hb : p ∈ c.B
    · exact absurd hp (E1.al p (E.inO hb))
    · rw [(hid_some.mp (s1 p o (hid_some.mpr ⟨hb, e⟩))).2] at hp
      cases hp
/-- a new list as a value -/
theorem wf_we (h : WF c te ρ n fun n1 ds => Φ n1 (.lst ds)) : WE c te ρ n Φ := fun P L σ H Q E q => by
  refine h P L σ H _ E fun p xs ds n1 H1 s1 hp h1 r1 j1 k => ?_
  have w := E.new hp
  have nin : p ∉ L ++ c.O := fun q => by rcases List.mem_append.mp q with q | q; exact w.2.2 q; exact w.2.1 q
  have sub : Same (hid (p :: (L ++ c.O)) H1) (hid (L ++ c.O) H1) := same_hid_sub fun a ha => List.mem_cons_of_mem _ ha
  exact q _ _ n1 H1 s1 j1 (.lst (.inl (by rw [hid_out nin]; exact h1)) (r1.mono sub)) k
theorem we_lst (h : WA c as ρ n fun n1 ds => ds.length ≤ sizeLine ∧ Φ n1 (.lst ds)) : WE c (tLst as) ρ n Φ := wf_we (wf_lst h)

/-! ### calls -/
/-- what a call of values asks, over data -/
def RCD (K : PySem.W.Frag) (r : List V → Hp → VK → Prop) (ds : List D) (Φ : D → Prop) : Prop := ∀ (O : List Addr) (H : Hp) (xs : List V) (Q : VK), RpAll K (hid O H) xs ds → (∀ p, H p = none → p ∉ O) → (∀ v f H', Same H H' → Rp K (hid O H') v f → Φ f → Q v H') → r xs H Q
theorem we_cb {r : List V → Hp → VK → Prop} (h : WA c as ρ n fun n1 ds => RCD c.K r ds (Φ n1)) : WE c (tCB r as) ρ n Φ := fun P L σ H Q E q => by
  refine h P L σ H _ E fun vs ds n1 H1 s1 j1 r1 k => ?_
  have E1 := E.step s1 j1
  refine k (L ++ c.O) H1 vs Q r1 E1.noO fun v f H' s r k => ?_
  have z := E1.same s
  exact q v f n1 H' (s1.trans z.1) z.2 r k
/-- what a def promises, over data: S of the bag, the turns, the arguments, what is wanted -/
abbrev Spec := Option (Addr × Addr) → Nat → List D → (Nat → D → Prop) → Prop
def spD (K : PySem.W.Frag) (S : Spec) : Sp := fun vs H Q _ => ∃ (O : List Addr) (bag : Option (Addr × Addr)) (n : Nat) (ds : List D) (Φ : Nat → D → Prop),
  (∀ b q, bag = some (b, q) → BagOk b q n H ∧ b ∈ O ∧ q ∈ O ∧ q ≠ b) ∧ (∀ o ∈ O, H o ≠ none) ∧ RpAll K (hid O H) vs ds ∧ S bag n ds Φ ∧
  ∀ v d n' H', Same (hid (bag.map (·.1)).toList H) (hid (bag.map (·.1)).toList H') → (∀ b q, bag = some (b, q) → BagOk b q n' H') → Rp K (hid O H') v d → Φ n' d → Q v H'
theorem Env.alLO {P : Hp} {L : List Addr} {n : Nat} {H : Hp} {σ : List (Option V)} (E : Env c P L n H σ ρ) : ∀ o ∈ L ++ c.O, H o ≠ none := fun o ho => by
  rcases List.mem_append.mp ho with q | q
  · obtain ⟨xs, h⟩ := E.lst o q
    rw [h]; exact fun q => by cases q
  · exact E.al o q
/-- the defaults' data -/
theorem we_call {S : Spec} {dvs : List V} {dds : List D} {XE : XK} (hd : ∀ H, RpAll c.K H dvs dds) (h : WA c as ρ n fun n1 ds => S c.bag n1 (ds ++ dds) Φ) : WE c (tCall (spD c.K S) dvs XE as) ρ n Φ := fun P L σ H Q E q => by
  refine h P L σ H _ E fun vs ds n1 H1 s1 j1 r1 k => ?_
  have E1 := E.step s1 j1
  refine ⟨L ++ c.O, c.bag, n1, ds ++ dds, Φ, fun b q hb => ⟨j1 b q hb, List.mem_append_right _ (E.bO b q hb).1, List.mem_append_right _ (E.bO b q hb).2.1, (E.bO b q hb).2.2⟩, E1.alLO, r1.append (hd _), k, fun v d n2 H2 s2 j2 r2 k2 => ?_⟩
  exact q v d n2 H2 (s1.trans s2) j2 r2 k2
theorem we_call0 {S : Spec} {XE : XK} (h : WA c as ρ n fun n1 ds => S c.bag n1 ds Φ) : WE c (tCall (spD c.K S) [] XE as) ρ n Φ := we_call (dds := []) (fun _ => .nil) fun P L σ H Q E q => h P L σ H Q E fun vs ds n1 H1 s1 j1 r1 k => q vs ds n1 H1 s1 j1 r1 (by show S c.bag n1 (ds ++ []) Φ; rw [List.append_nil]; exact k)

/-! ### statements -/
theorem ws_seq (h : WS c ts ρ n { Ψ with nx := fun n1 ρ1 => WS c us ρ1 n1 Ψ }) : WS c (tSeq ts us) ρ n Ψ := fun P L σ H Dn E A =>
  h P L σ H _ E { nx := fun L' n1 H1 σ1 ρ1 E1 k => k P L' σ1 H1 Dn E1 A, rt := A.rt, bk := A.bk, ct := A.ct }
theorem ws_next (k : Ψ.nx n ρ) : WS c tNext ρ n Ψ := fun P L σ H Dn E A => A.nx L n H σ ρ E k
theorem ws_brk (k : Ψ.bk n ρ) : WS c tBreak ρ n Ψ := fun P L σ H Dn E A => A.bk L n H σ ρ E k
theorem ws_cont (k : Ψ.ct n ρ) : WS c tCont ρ n Ψ := fun P L σ H Dn E A => A.ct L n H σ ρ E k
theorem Env.set {P : Hp} {L : List Addr} {n : Nat} {H : Hp} {σ : List (Option V)} (E : Env c P L n H σ ρ) {v : V} {d : D} (i : Nat) (h : Rp c.K (hid (L ++ c.O) H) v d) : Env c P L n H (σ.set i (some v)) (ρ.set i (.val d)) := by
  obtain ⟨Ls, sl, sb⟩ := E.slots
  obtain ⟨L', s, sub⟩ := sl.set h i
  exact E.reslot s (sub.trans sb)
theorem ws_set {i : Nat} (h : WE c te ρ n fun n1 d => Ψ.nx n1 (ρ.set i (.val d))) : WS c (tAsg te (gName i)) ρ n Ψ := fun P L σ H Dn E A => by
  refine h P L σ H _ E fun v d n1 H1 s1 j1 r1 k => ?_
  exact A.nx L n1 H1 _ _ ((E.step s1 j1).set i r1) k
theorem ws_asg {g : TG} (h : WE c te ρ n fun n1 d => WG c (fun _ _ => True) g d ρ n1 fun ρ1 => Ψ.nx n1 ρ1) : WS c (tAsg te g) ρ n Ψ := fun P L σ H Dn E A => by
  refine h P L σ H _ E fun v d n1 H1 s1 j1 r1 k => ?_
  exact k P L σ H1 v _ (E.step s1 j1) r1 fun σ' ρ' E' _ k => A.nx L n1 H1 σ' ρ' E' k
theorem ins_sub {α : Type} {p : α} : ∀ {L1 L2 L : List α}, (L1 ++ L2).Sublist L → ∃ Lp : List α, (L1 ++ p :: L2).Sublist Lp ∧ Lp.Perm (p :: L)
  | [], L2, L, h => ⟨p :: L, h.cons_cons p, List.Perm.refl _⟩
  | a :: L1, L2, L, h => by
    generalize e : a :: L1 ++ L2 = M at h
    induction h with
    | slnil => cases e
    | @cons l1 l2 b s ih =>
      obtain ⟨Lp, h1, h2⟩ := ih e
      exact ⟨b :: Lp, h1.cons b, (h2.cons b).trans (List.Perm.swap p b l2)⟩
    | @cons_cons l1 l2 b s ih =>
      have e' : a = b ∧ L1 ++ L2 = l1 := by simpa using e
      obtain ⟨e1, e2⟩ := e'
      subst e1; subst e2
      obtain ⟨Lp, h1, h2⟩ := ins_sub s
      exact ⟨a :: Lp, h1.cons_cons a, (h2.cons a).trans (List.Perm.swap p a l2)⟩
/-- a new list that is to be changed -/
theorem ws_own {i : Nat} (hi : i < ρ.length) (h : WF c te ρ n fun n1 ds => Ψ.nx n1 (ρ.set i (.own ds))) : WS c (tAsg te (gName i)) ρ n Ψ := fun P L σ H Dn E A => by
  refine h P L σ H _ E fun p xs ds n1 H1 s1 hp h1 r1 j1 k => ?_
  have w := E.new hp
  have nin : p ∉ L ++ c.O := E.noO p hp
  have E1 := E.step s1 j1
  have hs : Same (hid (L ++ c.O) H) (hid (p :: (L ++ c.O)) H1) := fun a o q => by
    obtain ⟨q1, q2⟩ := hid_some.mp q
    have q3 := (hid_some.mp (E.sameLO s1 a o q)).2
    refine hid_some.mpr ⟨fun z => ?_, q3⟩
    rcases List.mem_cons.mp z with z | z
    · subst z; rw [hp] at q2; cases q2
    · exact q1 z
  obtain ⟨Ls, sl0, sb⟩ := E.slots
  have sl : Slots c.pr c.wd c.K (p :: (L ++ c.O)) H1 σ ρ Ls := sl0.move (fun l hl => E.own s1 l (sb.subset hl)) hs
  obtain ⟨L1, L2, L3, sl2, eL, sub⟩ := Slots.setO h1 r1 (fun q => w.2.2 (sb.subset q)) i hi sl
  have e0 : p :: (L ++ c.O) = (p :: L) ++ c.O := rfl
  -- the slots' lists within p :: L: by a permutation's place
  have mv : ∃ Lp : List Addr, (L1 ++ p :: L2).Sublist Lp ∧ Lp.Perm (p :: L) := by
    rw [eL] at sb
    have h5 : (L1 ++ L2).Sublist L := (List.Sublist.append_left sub L1).trans sb
    exact ins_sub h5
  obtain ⟨Lp, sLp, pLp⟩ := mv
  have mem : ∀ a, a ∈ Lp ++ c.O ↔ a ∈ p :: (L ++ c.O) := fun a => by
    rw [e0, List.mem_append, List.mem_append, pLp.mem_iff]
  refine A.nx Lp n1 H1 _ _ ?_ k
  exact { nd := pLp.nodup_iff.mpr (List.nodup_cons.mpr ⟨w.2.2, E.nd⟩),
          fresh := fun l hl => by
            rcases List.mem_cons.mp (pLp.mem_iff.mp hl) with q | q
            · subst q; exact ⟨w.1, w.2.1⟩
            · exact E.fresh l q,
          slots := ⟨_, sl2.move (fun _ _ => rfl) (same_hid_sub fun a ha => (mem a).mp ha), sLp⟩,
          lst := fun l hl => by
            rcases List.mem_cons.mp (pLp.mem_iff.mp hl) with q | q
            · subst q; exact ⟨_, h1⟩
            · exact E1.lst l q,
          bag := j1,
          base := E1.base,
          pers := (E.pers.trans hs).trans (same_hid_sub fun a ha => (mem a).mp ha),
          bO := E.bO, al := E1.al }
theorem Slots.freeze {pr : Program} {wd : World} {K : PySem.W.Frag} {O : List Addr} {H : Hp} {ds : List D} : ∀ {σ : List (Option V)} {ρ : List SD} {L : List Addr} {i : Nat}, Slots pr wd K O H σ ρ L → ρ[i]? = some (.own ds) → ∃ L1 l L2 xs, L = L1 ++ l :: L2 ∧ H l = some (.lst xs) ∧ RpAll K (hid O H) xs ds ∧
    ∀ O' , Same (hid O H) (hid O' H) → l ∉ O' → Slots pr wd K O' H σ (ρ.set i (.val (.lst ds))) (L1 ++ L2)
  | _, _, _, _, .nil, e => by simp at e
  | _, _, _, 0, .un _, e => by simp at e
  | _, _, _, i + 1, .un s, e => by
    obtain ⟨L1, l, L2, xs, h1, h2, h3, h4⟩ := Slots.freeze (i := i) s (by simpa using e)
    exact ⟨L1, l, L2, xs, h1, h2, h3, fun O' a b => .un (h4 O' a b)⟩
  | _, _, _, 0, .val _ _, e => by simp at e
  | _, _, _, i + 1, .val r s, e => by
    obtain ⟨L1, l, L2, xs, h1, h2, h3, h4⟩ := Slots.freeze (i := i) s (by simpa using e)
    exact ⟨L1, l, L2, xs, h1, h2, h3, fun O' a b => .val (r.mono a) (h4 O' a b)⟩
  | _, _, _, 0, .own h r s, e => by
    simp at e
    subst e
    exact ⟨[], _, _, _, rfl, h, r, fun O' a b => .val (.lst (.inl (by rw [hid_out b]; exact h)) (r.mono a)) (s.move (fun _ _ => rfl) a)⟩
  | _, _, _, i + 1, .own h r s, e => by
    obtain ⟨L1, l, L2, xs, h1, h2, h3, h4⟩ := Slots.freeze (i := i) s (by simpa using e)
    exact ⟨_ :: L1, l, L2, xs, by rw [h1]; rfl, h2, h3, fun O' a b => .own h (r.mono a) (h4 O' a b)⟩
  | _, _, _, 0, .dic _ _, e => by simp at e
  | _, _, _, 0, .dk _ _, e => by simp at e
  | _, _, _, 0, .tw _ _, e => by simp at e
  | _, _, _, i + 1, .dic h s, e => by
    obtain ⟨L1, l, L2, xs, h1, h2, h3, h4⟩ := Slots.freeze (i := i) s (by simpa using e)
    exact ⟨_ :: L1, l, L2, xs, by rw [h1]; rfl, h2, h3, fun O' a b => .dic (h.move rfl a) (h4 O' a b)⟩
  | _, _, _, i + 1, .dk h s, e => by
    obtain ⟨L1, l, L2, xs, h1, h2, h3, h4⟩ := Slots.freeze (i := i) s (by simpa using e)
    exact ⟨_ :: L1, l, L2, xs, by rw [h1]; rfl, h2, h3, fun O' a b => .dk (h.move rfl a) (h4 O' a b)⟩
  | _, _, _, i + 1, .tw h s, e => by
    obtain ⟨L1, l, L2, xs, h1, h2, h3, h4⟩ := Slots.freeze (i := i) s (by simpa using e)
    exact ⟨_ :: L1, l, L2, xs, by rw [h1]; rfl, h2, h3, fun O' a b => .tw (h.move rfl a) (h4 O' a b)⟩
theorem Env.freeze {P : Hp} {L : List Addr} {n : Nat} {H : Hp} {σ : List (Option V)} {i : Nat} {ds : List D} (E : Env c P L n H σ ρ) (h : ρ[i]? = some (.own ds)) : ∃ L', Env c P L' n H σ (ρ.set i (.val (.lst ds))) ∧ L'.Sublist L := by
  obtain ⟨Ls, sl, sb⟩ := E.slots
  obtain ⟨L1, l, L2, xs, h1, h2, h3, h4⟩ := sl.freeze h
  have lL : l ∈ L := sb.subset (by rw [h1]; simp)
  have sub : (L.erase l).Sublist L := List.erase_sublist
  have nl : l ∉ L.erase l := E.nd.not_mem_erase
  have sb2 : (L1 ++ L2).Sublist (L.erase l) := by
    have nd := sb.nodup E.nd
    rw [h1] at nd
    have n1 : l ∉ L1 := fun q => by
      have := (List.nodup_append.mp nd).2.2 l q l List.mem_cons_self
      exact this rfl
    have q : (Ls.erase l).Sublist (L.erase l) := sb.erase l
    rw [h1, List.erase_append_right _ n1, List.erase_cons_head] at q
    exact q
  have nO : l ∉ (L.erase l) ++ c.O := fun q => by
    rcases List.mem_append.mp q with q | q
    · exact nl q
    · exact (E.fresh l lL).2 q
  have se : Same (hid (L ++ c.O) H) (hid ((L.erase l) ++ c.O) H) := same_hid_sub fun a ha => by
    rcases List.mem_append.mp ha with q | q
    · exact List.mem_append_left _ (sub.subset q)
    · exact List.mem_append_right _ q
  exact ⟨L.erase l, { nd := sub.nodup E.nd, fresh := fun l hl => E.fresh l (sub.subset hl), slots := ⟨_, h4 _ se nO, sb2⟩, lst := fun l hl => E.lst l (sub.subset hl), base := E.base, pers := E.pers.trans se, bO := E.bO, al := E.al, bag := E.bag }, sub⟩
/-- an own list is handed on, no more changed -/
theorem ws_freeze (i : Nat) {ds : List D} (h : ρ[i]? = some (.own ds)) (k : WS c ts (ρ.set i (.val (.lst ds))) n Ψ) : WS c ts ρ n Ψ := fun P L σ H Dn E A => by
  obtain ⟨L', E', _⟩ := E.freeze h
  exact k P L' σ H Dn E' A
/-- an own list looked at; a scalar comes out -/
def scalar : D → Bool
  | .non => true
  | .bl _ => true
  | .int _ => true
  | .str _ => true
  | _ => false
theorem Rp.scal {K : PySem.W.Frag} {H H' : Hp} {v : V} {d : D} (r : Rp K H v d) (h : scalar d = true) : Rp K H' v d := by
  cases r with
  | non => exact .non
  | bl b => exact .bl b
  | int i => exact .int i
  | str x => exact .str x
  | _ => cases h
theorem wt_look (i : Nat) {Φ : Nat → Bool → Prop} {ds : List D} (h : ρ[i]? = some (.own ds)) (k : WT c t (ρ.set i (.val (.lst ds))) n Φ) : WT c t ρ n Φ := fun P L σ H Q E q => by
  obtain ⟨L', E', sub⟩ := E.freeze h
  exact k P L' σ H Q E' fun b n1 H1 s1 j1 k1 => q b n1 H1 s1 j1 k1
theorem we_look (i : Nat) {ds : List D} (h : ρ[i]? = some (.own ds)) (k : WE c te (ρ.set i (.val (.lst ds))) n fun n1 d => scalar d = true ∧ Φ n1 d) : WE c te ρ n Φ := fun P L σ H Q E q => by
  obtain ⟨L', E', sub⟩ := E.freeze h
  exact k P L' σ H Q E' fun v d n1 H1 s1 j1 r1 ⟨hs, k1⟩ => q v d n1 H1 s1 j1 (r1.scal hs) k1
theorem ws_ret (h : WE c te ρ n Ψ.rt) : WS c (tRet te) ρ n Ψ := fun P L σ H Dn E A => by
  refine h P L σ H _ E fun v d n1 H1 s1 j1 r1 k => ?_
  have E1 := E.step s1 j1
  have se : Same (hid (L ++ c.O) H1) (hid c.O H1) := same_hid_sub fun a ha => List.mem_append_right _ ha
  exact A.rt v d n1 H1 E1.base j1 (r1.mono se) k
theorem ws_retN (k : Ψ.rt n .non) : WS c tRetN ρ n Ψ := fun P L σ H Dn E A => by
  have se : Same (hid (L ++ c.O) H) (hid c.O H) := same_hid_sub fun a ha => List.mem_append_right _ ha
  exact A.rt .non .non n H E.base E.bag .non k
theorem ws_if (h : WT c t ρ n fun n1 b => if b = true then WS c ts ρ n1 Ψ else WS c us ρ n1 Ψ) : WS c (tIfS t ts us) ρ n Ψ := fun P L σ H Dn E A => by
  refine h P L σ H _ E fun b n1 H1 s1 j1 k => ?_
  cases b with
  | true =>
    rw [if_pos rfl] at k ⊢
    exact k P L σ H1 Dn (E.step s1 j1) A
  | false =>
    rw [if_neg Bool.false_ne_true] at k ⊢
    exact k P L σ H1 Dn (E.step s1 j1) A
theorem ws_drop (h : WE c te ρ n fun n1 _ => Ψ.nx n1 ρ) : WS c (tDrop te) ρ n Ψ := fun P L σ H Dn E A => by
  refine h P L σ H _ E fun v d n1 H1 s1 j1 r1 k => ?_
  exact A.nx L n1 H1 σ ρ (E.step s1 j1) k
theorem ws_never (h : False) : WS c ts ρ n Ψ := h.elim
theorem WS.mono {Ψ' : Out} (h : WS c ts ρ n Ψ) (h1 : ∀ n ρ, Ψ.nx n ρ → Ψ'.nx n ρ) (h2 : ∀ n d, Ψ.rt n d → Ψ'.rt n d) (h3 : ∀ n ρ, Ψ.bk n ρ → Ψ'.bk n ρ) (h4 : ∀ n ρ, Ψ.ct n ρ → Ψ'.ct n ρ) : WS c ts ρ n Ψ' := fun P L σ H Dn E A =>
  h P L σ H Dn E { nx := fun L n H σ ρ E k => A.nx L n H σ ρ E (h1 _ _ k), rt := fun v d n H s j r k => A.rt v d n H s j r (h2 _ _ k), bk := fun L n H σ ρ E k => A.bk L n H σ ρ E (h3 _ _ k), ct := fun L n H σ ρ E k => A.ct L n H σ ρ E (h4 _ _ k) }
theorem WE.mono {Φ' : Nat → D → Prop} (h : WE c te ρ n Φ) (k : ∀ n d, Φ n d → Φ' n d) : WE c te ρ n Φ' := fun P L σ H Q E q => h P L σ H Q E fun v d n1 H1 s1 j1 r1 p => q v d n1 H1 s1 j1 r1 (k _ _ p)
theorem WT.mono {Φ Φ' : Nat → Bool → Prop} (h : WT c t ρ n Φ) (k : ∀ n d, Φ n d → Φ' n d) : WT c t ρ n Φ' := fun P L σ H Q E q => h P L σ H Q E fun v n1 H1 s1 j1 p => q v n1 H1 s1 j1 (k _ _ p)

/-! ### targets -/
theorem wg_name {R : ER → ER → Prop} {i : Nat} {d : D} {Φ : List SD → Prop} (hR : ∀ σ v, R σ (σ.set i (some v))) (k : Φ (ρ.set i (.val d))) : WG c R (gName i) d ρ n Φ := fun P L σ H v Q E r q =>
  q _ _ (E.set i r) (hR σ v) k
theorem wgs_nil {R : ER → ER → Prop} {Φ : List SD → Prop} (hR : ∀ σ, R σ σ) (k : Φ ρ) : WGs c R gNil [] ρ n Φ := fun P L σ H vs Q E r q => by
  cases r
  exact ⟨rfl, q σ ρ E (hR σ) k⟩
theorem wgs_cons {R : ER → ER → Prop} {g : TG} {gs : TGs} {d : D} {ds : List D} {Φ : List SD → Prop} (hR : ∀ a b e, R a b → R b e → R a e) (h : WG c R g d ρ n fun ρ1 => WGs c R gs ds ρ1 n Φ) : WGs c R (gCons g gs) (d :: ds) ρ n Φ := fun P L σ H vs Q E r q => by
  cases r with
  | cons r1 r2 =>
    refine ⟨_, _, rfl, ?_⟩
    refine h P L σ H _ _ E r1 fun σ' ρ' E' hR1 k => ?_
    exact k P L σ' H _ _ E' r2 fun σ2 ρ2 E2 hR2 k2 => q σ2 ρ2 E2 (hR _ _ _ hR1 hR2) k2
theorem wg_tup {R : ER → ER → Prop} {m : Nat} {gs : TGs} {ds : List D} {Φ : List SD → Prop} (hl : ds.length = m) (h : WGs c R gs ds ρ n Φ) : WG c R (gTup c.K m gs) (.tup ds) ρ n Φ := fun P L σ H v Q E r q => by
  cases r with
  | tup hs ha =>
    exact ⟨_, _, rfl, same_t same_hid hs, by rw [ha.length]; exact hl, h P L σ H _ Q E ha q⟩

/-! ### loops -/
theorem ws_for {wi : TI} {g : TG} (h : WI c wi ρ n fun n1 ds => ∃ I : Nat → Nat → List SD → Prop, I 0 n1 ρ ∧
    (∀ k m ρ1 d, ds[k]? = some d → I k m ρ1 → WG c (fun _ _ => True) g d ρ1 m fun ρ2 => WS c ts ρ2 m { nx := I (k + 1), ct := I (k + 1), bk := Ψ.nx, rt := Ψ.rt }) ∧ (∀ m ρ1, I ds.length m ρ1 → Ψ.nx m ρ1)) : WS c (tFor wi g ts) ρ n Ψ := fun P L σ H Dn E A => by
  refine h P L σ H _ E fun J ds n1 H1 s1 j1 it ⟨I, h0, hs, hd⟩ => ?_
  have E1 := (E.step s1 j1).pers'
  have pp : Same P (hid (L ++ c.O) H1) := (E.step s1 j1).pers
  have A' : Acc c (hid (L ++ c.O) H1) Ψ Dn := { nx := fun L n H σ ρ E k => A.nx L n H σ ρ (E.persOf pp) k, rt := A.rt, bk := fun L n H σ ρ E k => A.bk L n H σ ρ (E.persOf pp) k, ct := fun L n H σ ρ E k => A.ct L n H σ ρ (E.persOf pp) k }
  refine ⟨fun i m σ H => m + i = ds.length ∧ ∃ L' n' ρ', Env c (hid (L ++ c.O) H1) L' n' H σ ρ' ∧ I i n' ρ', ⟨ds.length, rfl, L, n1, ρ, E1, h0⟩, ?_⟩
  rintro i m σ' H' ⟨hm, L', n', ρ', E', hI⟩
  by_cases hi : i < ds.length
  · right
    have hg : ds[i]? = some ds[i] := List.getElem?_eq_getElem hi
    obtain ⟨go, yl⟩ := it.go L' n' H' σ' ρ' E' i _ hg
    refine ⟨go, fun σ2 H2 => ∃ L2 n2 ρ2, Env c (hid (L ++ c.O) H1) L2 n2 H2 σ2 ρ2 ∧ I (i + 1) n2 ρ2, ?_, ?_⟩
    · rintro σ2 H2 ⟨L2, n2, ρ2, E2, hI2⟩
      exact ⟨m - 1, by omega, by omega, L2, n2, ρ2, E2, hI2⟩
    · intro x H2 hy
      obtain ⟨sm, rx⟩ := yl x H2 hy
      have z := E'.same sm
      refine hs i n' ρ' _ hg hI _ L' σ' H2 x _ (E'.step z.1 z.2) rx fun σ3 ρ3 E3 _ k3 => ?_
      exact k3 _ L' σ3 H2 _ E3 { nx := fun L n H σ ρ E k => ⟨L, n, ρ, E, k⟩, rt := A.rt, bk := fun L n H σ ρ E k => A'.nx L n H σ ρ E k, ct := fun L n H σ ρ E k => ⟨L, n, ρ, E, k⟩ }
  · left
    have e : i = ds.length := by omega
    subst e
    exact ⟨it.stop L' n' H' σ' ρ' E' _ (Nat.le_refl _), A'.nx L' n' H' σ' ρ' E' (hd n' ρ' hI)⟩
end
end L3
/-! L3c: walks, comprehensions, operations. -/
namespace L3
open PySem L2

/-! ### walks -/
def signs (z : Str) : List D := z.cps.toList.map fun c => D.str ⟨#[c]⟩
def items : D → Option (List D)
  | .lst xs => some xs
  | .tup xs => some xs
  | .str z => some (signs z)
  | _ => none
def iSeq (K : PySem.W.Frag) (tl : TE) : TI := fun σ H R => tl σ H fun x H1 => (∃ a, x = .ref a ∧ (((∃ xs, SqL K H1 a xs) ∧ R (Itl K a) H1) ∨ ((∃ xs, SqT K H1 a xs) ∧ R (Itt K a) H1)))
theorem pi_seq {X : Cx} {tg l : Expr} {tl : TE} (hl : PE X l tl) : PI X tg l (iSeq X.K tl) := by
  refine ⟨fun pins s σ H R I h => ?_⟩
  refine thn (hl.run pins s σ H _ I h) fun v s1 ⟨x, H1, I1, r1, q1⟩ => ?_
  obtain ⟨a, e, ⟨⟨xs, hq⟩, q⟩ | ⟨⟨xs, hq⟩, q⟩⟩ := q1
  · subst e
    cases r1
    obtain ⟨its, rv, p, hz⟩ := I1.list hq
    refine wpAny_pyIter_list p.isList ?_
    refine ⟨s1.heap.objs.size, [s1.heap.objs.size], _, _, H1, rfl, I1.kept (t' := s1.toks) fun b o e => Heap.get?_push_of_some _ e, turn_list a _, ⟨_, Heap.get?_push_size _ rfl, rfl, rfl⟩, fun b hb => ?_, q⟩
    have e : b = s1.heap.objs.size := by simpa using hb
    subst e
    exact I1.fpOk (Nat.le_refl _) (I1.hok.fresh (Nat.le_refl _))
  · subst e
    cases r1
    obtain ⟨its, rv, p, hz⟩ := I1.tuple hq
    refine wpAny_pyIter_tuple (show s1.heap.IsTuple a its.toArray from p) ?_
    refine ⟨s1.heap.objs.size, [s1.heap.objs.size], _, _, H1, rfl, I1.kept (t' := s1.toks) fun b o e => Heap.get?_push_of_some _ e, turn_tuple a _, ⟨_, Heap.get?_push_size _ rfl, rfl, rfl⟩, fun b hb => ?_, q⟩
    have e : b = s1.heap.objs.size := by simpa using hb
    subst e
    exact I1.fpOk (Nat.le_refl _) (I1.hok.fresh (Nat.le_refl _))
section
variable {c : Ctx} {ρ : List SD} {n : Nat} {ta tb te : TE} {t u : TT} {as : TA} {Φ : Nat → D → Prop} {Ψ : Out} {ts us : TS}
theorem Env.perR {P : Hp} {L : List Addr} {n : Nat} {H : Hp} {σ : List (Option V)} (E : Env c P L n H σ ρ) : Same P H := E.pers.trans same_hid
theorem it_l {a : Addr} {xs : List V} {ds : List D} {P : Hp} (hs : SqL c.K P a xs) (hr : RpAll c.K P xs ds) : ItOk c (Itl c.K a) ds P where
  go := fun L n H σ ρ E i d hd => by
    obtain ⟨v, h1, h2⟩ := hr.get' hd
    refine ⟨⟨xs, v, same_l E.perR hs, h1⟩, fun x H' ⟨e, hy⟩ => ?_⟩
    subst e
    have e := hy xs (same_l E.perR hs)
    rw [h1] at e
    cases e
    exact ⟨Same.refl _, h2.mono E.pers⟩
  stop := fun L n H σ ρ E i hi => ⟨xs, same_l E.perR hs, by rw [hr.length]; exact hi⟩
theorem it_t {a : Addr} {xs : List V} {ds : List D} {P : Hp} (hs : SqT c.K P a xs) (hr : RpAll c.K P xs ds) : ItOk c (Itt c.K a) ds P where
  go := fun L n H σ ρ E i d hd => by
    obtain ⟨v, h1, h2⟩ := hr.get' hd
    refine ⟨⟨xs, v, same_t E.perR hs, h1⟩, fun x H' ⟨e, hy⟩ => ?_⟩
    subst e
    have e := hy xs (same_t E.perR hs)
    rw [h1] at e
    cases e
    exact ⟨Same.refl _, h2.mono E.pers⟩
  stop := fun L n H σ ρ E i hi => ⟨xs, same_t E.perR hs, by rw [hr.length]; exact hi⟩
def seqD : D → Option (List D)
  | .lst xs => some xs
  | .tup xs => some xs
  | _ => none
theorem wi_seq {Φ : Nat → List D → Prop} (h : WE c te ρ n fun n1 d => ∃ ds, seqD d = some ds ∧ Φ n1 ds) : WI c (iSeq c.K te) ρ n Φ := fun P L σ H R E q => by
  refine h P L σ H _ E fun x d n1 H1 s1 j1 r1 ⟨ds, e, k⟩ => ?_
  cases r1 with
  | lst hs ha =>
    cases e
    exact ⟨_, rfl, .inl ⟨⟨_, .inl (same_rd same_hid hs)⟩, q _ _ n1 H1 s1 j1 (it_l (.inl hs) ha) k⟩⟩
  | tup hs ha =>
    cases e
    exact ⟨_, rfl, .inr ⟨⟨_, same_t same_hid hs⟩, q _ _ n1 H1 s1 j1 (it_t hs ha) k⟩⟩
  | _ => cases e
def rangeD (lo : Int) (m : Nat) : List D := (List.range m).map fun k => D.int (lo + (k : Nat))
theorem rangeD_get {lo : Int} {m i : Nat} {d : D} (h : (rangeD lo m)[i]? = some d) : i < m ∧ d = .int (lo + i) := by
  unfold rangeD at h
  rw [List.getElem?_map] at h
  by_cases hi : i < m
  · rw [List.getElem?_range hi] at h
    exact ⟨hi, (Option.some.inj h).symm⟩
  · rw [List.getElem?_eq_none (by simp; omega)] at h
    cases h
theorem rangeD_len {lo : Int} {m : Nat} : (rangeD lo m).length = m := by unfold rangeD; simp
theorem it_r {lo : Int} {m : Nat} {P : Hp} : ItOk c (Itr lo m) (rangeD lo m) P where
  go := fun L n H σ ρ E i d hd => by
    obtain ⟨h1, h2⟩ := rangeD_get hd
    refine ⟨h1, fun x H' ⟨e, hy⟩ => ?_⟩
    subst e; subst hy; subst h2
    exact ⟨Same.refl _, .int _⟩
  stop := fun L n H σ ρ E i hi => by rw [rangeD_len] at hi; exact hi
theorem wi_rng1 {Φ : Nat → List D → Prop} (h : WA c as ρ n fun n1 ds => ∃ j : Int, ds = [.int j] ∧ -(2 ^ 62) ≤ j ∧ j < 2 ^ 62 ∧ Φ n1 (rangeD 0 j.toNat)) : WI c (iRng1 as) ρ n Φ := fun P L σ H R E q => by
  refine h P L σ H _ E fun vs ds n1 H1 s1 j1 r1 ⟨j, e, h1, h2, k⟩ => ?_
  subst e
  cases r1 with
  | cons r rr =>
    cases rr
    cases r
    exact ⟨j, rfl, h1, h2, q _ _ n1 H1 s1 j1 it_r k⟩
theorem wi_rng2 {Φ : Nat → List D → Prop} (h : WA c as ρ n fun n1 ds => ∃ i j : Int, ds = [.int i, .int j] ∧ (-(2 ^ 62) ≤ i ∧ i < 2 ^ 62 ∧ -(2 ^ 62) ≤ j ∧ j < 2 ^ 62) ∧ Φ n1 (rangeD i (j - i).toNat)) : WI c (iRng2 as) ρ n Φ := fun P L σ H R E q => by
  refine h P L σ H _ E fun vs ds n1 H1 s1 j1 r1 ⟨i, j, e, h1, k⟩ => ?_
  subst e
  cases r1 with
  | cons r rr =>
    cases rr with
    | cons r2 rr =>
      cases rr
      cases r
      cases r2
      exact ⟨i, j, rfl, h1, q _ _ n1 H1 s1 j1 it_r k⟩
/-- pairs (i, x) -/
def enumD (i : Int) : List D → List D
  | [] => []
  | d :: ds => .tup [.int i, d] :: enumD (i + 1) ds
theorem enumD_len : ∀ (ds : List D) (i : Int), (enumD i ds).length = ds.length
  | [], _ => rfl
  | _ :: ds, i => by show (enumD (i + 1) ds).length + 1 = ds.length + 1; rw [enumD_len ds]
theorem enumD_get : ∀ {ds : List D} {i : Int} {k : Nat} {d : D}, (enumD i ds)[k]? = some d → ∃ e, ds[k]? = some e ∧ d = .tup [.int (i + k), e]
  | [], i, k, d, h => by simp [enumD] at h
  | x :: ds, i, 0, d, h => by
    simp [enumD] at h
    exact ⟨x, rfl, by rw [← h]; simp⟩
  | x :: ds, i, k + 1, d, h => by
    obtain ⟨e, h1, h2⟩ := enumD_get (ds := ds) (i := i + 1) (k := k) (by simpa [enumD] using h)
    refine ⟨e, by simpa using h1, ?_⟩
    rw [h2]
    have : i + 1 + (k : Int) = i + ((k + 1 : Nat) : Int) := by omega
    rw [this]
theorem it_e {a : Addr} {xs : List V} {ds : List D} {P : Hp} (hs : SqL c.K P a xs) (hr : RpAll c.K P xs ds) : ItOk c (Ite c.K a) (enumD 0 ds) P where
  go := fun L n H σ ρ E i d hd => by
    obtain ⟨e, h1, h2⟩ := enumD_get hd
    obtain ⟨v, g1, g2⟩ := hr.get' h1
    subst h2
    refine ⟨⟨xs, v, same_l E.perR hs, g1⟩, fun x H' ⟨T, y, e1, e2, e3, hy⟩ => ?_⟩
    subst e1; subst e3
    have e4 := hy xs (same_l E.perR hs)
    rw [g1] at e4
    cases e4
    have sm := same_upd_new (o := .tup [.int (i : Nat), v]) e2
    refine ⟨sm, .tup (.inl (.inl (hid_at (E.noO T e2)))) (.cons ?_ (.cons ((g2.mono E.pers).mono (same_hid_of sm)) .nil))⟩
    have e5 : (0 : Int) + (i : Int) = (i : Int) := by omega
    rw [e5]
    exact .int _
  stop := fun L n H σ ρ E i hi => by
    rw [enumD_len] at hi
    exact ⟨xs, same_l E.perR hs, by rw [hr.length]; exact hi⟩
theorem wi_enum {Φ : Nat → List D → Prop} (h : WA c as ρ n fun n1 ds => ∃ xs, ds = [.lst xs] ∧ Φ n1 (enumD 0 xs)) : WI c (iEnum c.K as) ρ n Φ := fun P L σ H R E q => by
  refine h P L σ H _ E fun vs ds n1 H1 s1 j1 r1 ⟨xs, e, k⟩ => ?_
  subst e
  cases r1 with
  | cons r rr =>
    cases rr
    cases r with
    | lst hs ha => exact ⟨_, _, rfl, .inl (same_rd same_hid hs), q _ _ n1 H1 s1 j1 (it_e (.inl hs) ha) k⟩

/-! ### comprehensions -/
def wipeR (ρ : List SD) : List Nat → List SD
  | [] => ρ
  | v :: vs => (wipeR ρ vs).set v .un
theorem Slots.unset {pr : Program} {wd : World} {K : PySem.W.Frag} {O : List Addr} {H : Hp} : ∀ {σ : List (Option V)} {ρ : List SD} {L : List Addr} (i : Nat), Slots pr wd K O H σ ρ L → ∃ L', Slots pr wd K O H (σ.set i none) (ρ.set i .un) L' ∧ L'.Sublist L
  | _, _, _, _, .nil => ⟨[], .nil, List.Sublist.refl _⟩
  | _, _, _, 0, .un s => ⟨_, .un s, List.Sublist.refl _⟩
  | _, _, _, 0, .val _ s => ⟨_, .un s, List.Sublist.refl _⟩
  | _, _, _, 0, .own _ _ s => ⟨_, .un s, List.sublist_cons_self _ _⟩
  | _, _, _, i + 1, .un s => by
    obtain ⟨L', h1, h2⟩ := Slots.unset i s
    exact ⟨L', .un h1, h2⟩
  | _, _, _, i + 1, .val h s => by
    obtain ⟨L', h1, h2⟩ := Slots.unset i s
    exact ⟨L', .val h h1, h2⟩
  | _, _, _, i + 1, .own h r s => by
    obtain ⟨L', h1, h2⟩ := Slots.unset i s
    exact ⟨_ :: L', .own h r h1, h2.cons_cons _⟩
  | _, _, _, 0, .dic _ s => ⟨_, .un s, List.sublist_cons_self _ _⟩
  | _, _, _, 0, .dk _ s => ⟨_, .un s, List.sublist_cons_self _ _⟩
  | _, _, _, 0, .tw _ s => ⟨_, .un s, List.sublist_cons_self _ _⟩
  | _, _, _, i + 1, .dic h s => by
    obtain ⟨L', h1, h2⟩ := Slots.unset i s
    exact ⟨_ :: L', .dic h h1, h2.cons_cons _⟩
  | _, _, _, i + 1, .dk h s => by
    obtain ⟨L', h1, h2⟩ := Slots.unset i s
    exact ⟨_ :: L', .dk h h1, h2.cons_cons _⟩
  | _, _, _, i + 1, .tw h s => by
    obtain ⟨L', h1, h2⟩ := Slots.unset i s
    exact ⟨_ :: L', .tw h h1, h2.cons_cons _⟩
theorem Slots.wipe {pr : Program} {wd : World} {K : PySem.W.Frag} {O : List Addr} {H : Hp} {σ : List (Option V)} {ρ : List SD} {L : List Addr} (s : Slots pr wd K O H σ ρ L) : ∀ vs : List Nat, ∃ L', Slots pr wd K O H (wipe σ vs) (wipeR ρ vs) L' ∧ L'.Sublist L
  | [] => ⟨L, s, List.Sublist.refl _⟩
  | v :: vs => by
    obtain ⟨L1, h1, h2⟩ := Slots.wipe s vs
    obtain ⟨L2, h3, h4⟩ := h1.unset v
    exact ⟨L2, h3, h4.trans h2⟩
theorem wipe_set {σ : List (Option V)} {i : Nat} {v : V} : ∀ {vs : List Nat}, i ∈ vs → wipe (σ.set i (some v)) vs = wipe σ vs
  | w :: vs, h => by
    show (wipe (σ.set i (some v)) vs).set w none = (wipe σ vs).set w none
    by_cases hi : i ∈ vs
    · rw [wipe_set hi]
    · have hw : w = i := by
        rcases List.mem_cons.mp h with e | e
        · exact e.symm
        · exact absurd e hi
      subst hw
      have z : ∀ us : List Nat, w ∉ us → wipe (σ.set w (some v)) us = (wipe σ us).set w (some v) := by
        intro us
        induction us with
        | nil => intro _; rfl
        | cons u us ih =>
          intro hn
          show (wipe (σ.set w (some v)) us).set u none = ((wipe σ us).set u none).set w (some v)
          rw [ih fun q => hn (List.mem_cons_of_mem _ q)]
          exact List.set_comm _ _ fun e => hn (by rw [e]; exact List.mem_cons_self)
      rw [z vs hi, List.set_set]
theorem wipe_get {i : Nat} : ∀ {vs : List Nat} {σ : List (Option V)}, (wipe σ vs)[i]? = if i ∈ vs then σ[i]?.map fun _ => none else σ[i]?
  | [], σ => by simp [wipe]
  | v :: vs, σ => by
    show ((wipe σ vs).set v none)[i]? = _
    rw [List.getElem?_set]
    by_cases e : v = i
    · subst e
      rw [if_pos rfl, if_pos List.mem_cons_self]
      by_cases hl : v < (wipe σ vs).length
      · rw [if_pos hl]
        rw [wipe_length] at hl
        rw [List.getElem?_eq_getElem hl]; rfl
      · rw [if_neg hl]
        rw [wipe_length] at hl
        rw [List.getElem?_eq_none (by omega)]; rfl
    · rw [if_neg e, wipe_get]
      by_cases h : i ∈ vs
      · rw [if_pos h, if_pos (List.mem_cons_of_mem _ h)]
      · rw [if_neg h, if_neg (fun q => by rcases List.mem_cons.mp q with z | z; exact e z.symm; exact h z)]
theorem wipe_idem (σ : List (Option V)) (vs : List Nat) : wipe (wipe σ vs) vs = wipe σ vs := by
  apply List.ext_getElem?
  intro i
  rw [wipe_get, wipe_get]
  by_cases h : i ∈ vs
  · rw [if_pos h, if_pos h]; cases σ[i]? <;> rfl
  · rw [if_neg h, if_neg h]
theorem Slots.inj {pr : Program} {wd : World} {K : PySem.W.Frag} {O O' : List Addr} {H H' : Hp} : ∀ {σ : List (Option V)} {ρ : List SD} {L L' : List Addr}, Slots pr wd K O H σ ρ L → Slots pr wd K O' H' σ ρ L' → L = L'
  | _, _, _, _, .nil, .nil => rfl
  | _, _, _, _, .un s, .un t => Slots.inj s t
  | _, _, _, _, .val _ s, .val _ t => Slots.inj s t
  | _, _, _, _, .own _ _ s, .own _ _ t => by rw [Slots.inj s t]
  | _, _, _, _, .dic _ s, .dic _ t => by rw [Slots.inj s t]
  | _, _, _, _, .dk _ s, .dk _ t => by rw [Slots.inj s t]
  | _, _, _, _, .tw _ s, .tw _ t => by rw [Slots.inj s t]
theorem Env.noneB {P : Hp} {L : List Addr} {n n' : Nat} {H H' : Hp} {σ : List (Option V)} (E : Env c P L n H σ ρ) (e : Same (hid c.B H) (hid c.B H')) (j : c.J n' H') {p : Addr} (hp : H' p = none) : H p = none := by
  cases h : H p with
  | none => rfl
  | some o =>
    by_cases hb : p ∈ c.B
    · exact absurd hp ((E.step e j).al p (E.inO hb))
    · rw [(hid_some.mp (e p o (hid_some.mpr ⟨hb, h⟩))).2] at hp
      cases hp
theorem same_upd_old {B : List Addr} {H H' : Hp} {D : Addr} {o : HO} (h : H D = none) (s : Same (hid B H) (hid B H')) : Same (hid B H) (hid B (upd H' D o)) := fun a u e => by
  obtain ⟨h1, h2⟩ := hid_some.mp (s a u e)
  have ne : a ≠ D := fun q => by
    rw [q, hid_some, h] at e
    cases e.2
  exact hid_some.mpr ⟨h1, by rw [upd_ne ne]; exact h2⟩
/-- what the store to a comprehension's own names leaves -/
abbrev RW (vs : List Nat) : ER → ER → Prop := fun a b => wipe b vs = wipe a vs
theorem rw_name {vs : List Nat} {i : Nat} (h : i ∈ vs) : ∀ (σ : ER) (v : V), RW vs σ (σ.set i (some v)) := fun σ v => wipe_set h
theorem rw_refl {vs : List Nat} : ∀ σ : ER, RW vs σ σ := fun _ => rfl
theorem rw_trans {vs : List Nat} : ∀ a b e : ER, RW vs a b → RW vs b e → RW vs a e := fun _ _ _ h1 h2 => h2.trans h1
/-- the new list of a comprehension grows -/
theorem Env.grow {P : Hp} {L : List Addr} {n : Nat} {H : Hp} {σ : List (Option V)} {D : Addr} {xs : List V} {Ls : List Addr} (E : Env c P L n H σ ρ) (hD : D ∈ L) (sl : Slots c.pr c.wd c.K (L ++ c.O) H σ ρ Ls) (sb : Ls.Sublist L) (hn : D ∉ Ls) : Env c P L n (upd H D (.lst xs)) σ ρ := by
  have hm : D ∈ L ++ c.O := List.mem_append_left _ hD
  have hB : D ∉ c.B := E.notB hD
  have hO : D ∉ c.O := (E.fresh D hD).2
  exact { nd := E.nd, fresh := E.fresh,
          slots := ⟨Ls, sl.move (fun l hl => upd_ne fun e => hn (e ▸ hl)) (by rw [hid_upd_in hm]; exact Same.refl _), sb⟩,
          lst := fun l hl => by
            by_cases e : l = D
            · exact ⟨_, by rw [e, upd_same]⟩
            · rw [upd_ne e]; exact E.lst l hl,
          bag := fun b q hb => (E.bag b q hb).move (fun o h => by rw [upd_ne fun e : b = D => hO (e ▸ (E.bO b q hb).1)]; exact h) fun o h => by rw [upd_ne fun e : q = D => hO (e ▸ (E.bO b q hb).2.1)]; exact h,
          base := fun a o h => by
            have h0 : c.H0 D = none := (E.fresh D hD).1
            have ne : a ≠ D := fun e => by
              rw [e, hid_some] at h
              rw [h0] at h
              cases h.2
            obtain ⟨h1, h2⟩ := hid_some.mp (E.base a o h)
            exact hid_some.mpr ⟨h1, by rw [upd_ne ne]; exact h2⟩,
          pers := by rw [hid_upd_in hm]; exact E.pers,
          bO := E.bO,
          al := fun o ho => by rw [upd_ne fun e : o = D => hO (e ▸ ho)]; exact E.al o ho }
theorem Env.newOwn {P : Hp} {L : List Addr} {n : Nat} {H : Hp} {σ : List (Option V)} {D : Addr} {xs : List V} (E : Env c P L n H σ ρ) (hD : H D = none) : Env c P (D :: L) n (upd H D (.lst xs)) σ ρ := by
  have w := E.new hD
  obtain ⟨Ls, sl, sb⟩ := E.slots
  have e0 : hid ((D :: L) ++ c.O) (upd H D (.lst xs)) = hid (L ++ c.O) H := hid_new_in hD
  exact { nd := List.nodup_cons.mpr ⟨w.2.2, E.nd⟩,
          fresh := fun l hl => by
            rcases List.mem_cons.mp hl with e | e
            · subst e; exact ⟨w.1, w.2.1⟩
            · exact E.fresh l e,
          slots := ⟨Ls, sl.move (fun l hl => upd_ne fun e => w.2.2 (e ▸ sb.subset hl)) (by rw [e0]; exact Same.refl _), sb.cons _⟩,
          lst := fun l hl => by
            rcases List.mem_cons.mp hl with e | e
            · subst e; exact ⟨_, upd_same⟩
            · rw [upd_ne fun q : l = D => w.2.2 (q ▸ e)]; exact E.lst l e,
          bag := (E.newT hD).2.1,
          base := E.base.trans (E.newT hD).1,
          pers := by rw [e0]; exact E.pers,
          bO := E.bO,
          al := fun o ho => by rw [upd_ne fun e : o = D => w.2.1 (e ▸ ho)]; exact E.al o ho }
theorem wf_lc {wi : TI} {g : TG} {vs : List Nat} {Φ : Nat → List D → Prop} (h : WI c wi ρ n fun n1 ds => ∃ I : Nat → Nat → List D → Prop, I 0 n1 [] ∧
    (∀ k m acc d, ds[k]? = some d → I k m acc → WG c (RW vs) g d (wipeR ρ vs) m fun ρ2 => WT c t ρ2 m fun m2 b => if b = true then WE c te ρ2 m2 fun m3 y => acc.length < sizeLine ∧ I (k + 1) m3 (acc ++ [y]) else I (k + 1) m2 acc) ∧
    (∀ m acc, I ds.length m acc → Φ m acc)) : WF c (tLc wi g t te vs) ρ n Φ := fun P L σ H Q E q => by
  refine h P L σ H _ E fun J ds n1 H1 s1 j1 it ⟨I, h0, hs, hd⟩ => ?_
  intro D hD
  have E1 := (E.step s1 j1).pers'
  obtain ⟨Ls, sl, sb⟩ := E1.slots
  obtain ⟨Lw, slw, sbw⟩ := sl.wipe vs
  have Ew : Env c (hid (L ++ c.O) H1) L n1 H1 (wipe σ vs) (wipeR ρ vs) := E1.reslot slw (sbw.trans sb)
  have E2 := Ew.newOwn (xs := []) hD
  have DnL : D ∉ L := (E1.new hD).2.2
  -- the loop's invariant
  refine ⟨fun i m H' => m + i = ds.length ∧ ∃ n' xs acc, Env c (hid (L ++ c.O) H1) (D :: L) n' H' (wipe σ vs) (wipeR ρ vs) ∧ H' D = some (.lst xs) ∧ RpAll c.K (hid ((D :: L) ++ c.O) H') xs acc ∧ Same (hid c.B H1) (hid c.B H') ∧ I i n' acc, ⟨ds.length, rfl, n1, [], [], E2, upd_same, .nil, (E1.newT hD).1, h0⟩, ?_⟩
  rintro i m H' ⟨hm, n', xs, acc, E', hDx, hacc, sB, hI⟩
  by_cases hi : i < ds.length
  · right
    have hg : ds[i]? = some ds[i] := List.getElem?_eq_getElem hi
    obtain ⟨go, yl⟩ := it.go (D :: L) n' H' _ _ E' i _ hg
    refine ⟨go, fun H2 => ∃ n' xs acc, Env c (hid (L ++ c.O) H1) (D :: L) n' H2 (wipe σ vs) (wipeR ρ vs) ∧ H2 D = some (.lst xs) ∧ RpAll c.K (hid ((D :: L) ++ c.O) H2) xs acc ∧ Same (hid c.B H1) (hid c.B H2) ∧ I (i + 1) n' acc, ?_, ?_⟩
    · rintro H2 ⟨n2, xs2, acc2, a1, a2, a3, a4, a5⟩
      exact ⟨m - 1, by omega, by omega, n2, xs2, acc2, a1, a2, a3, a4, a5⟩
    · intro x H2 hy
      obtain ⟨sm, rx⟩ := yl x H2 hy
      have z := E'.same sm
      have E2' := E'.step z.1 z.2
      refine hs i n' acc _ hg hI _ (D :: L) _ H2 x _ E2' rx fun σ3 ρ3 E3 hw k3 => ?_
      refine ⟨hw.trans (wipe_idem σ vs), ?_⟩
      refine k3 _ (D :: L) σ3 H2 _ E3 fun b n4 H4 s4 j4 k4 => ?_
      have back : ∀ {H5 : Hp} {n5 : Nat}, Same (hid c.B H2) (hid c.B H5) → c.J n5 H5 → Env c (hid (L ++ c.O) H1) (D :: L) n5 H5 (wipe σ vs) (wipeR ρ vs) := fun s5 j5 => E2'.step s5 j5
      have own : ∀ {H5 : Hp}, Same (hid c.B H2) (hid c.B H5) → H5 D = some (.lst xs) := fun s5 => by
        rw [E2'.own s5 D List.mem_cons_self]
        exact sm D _ hDx
      have accs : ∀ {H5 : Hp}, Same (hid c.B H2) (hid c.B H5) → RpAll c.K (hid ((D :: L) ++ c.O) H5) xs acc := fun s5 => (hacc.mono (same_hid_of sm)).mono (E2'.sameLO s5)
      cases b with
      | false =>
        rw [if_neg Bool.false_ne_true] at k4 ⊢
        exact ⟨n4, xs, acc, back s4 j4, own s4, accs s4, (sB.trans z.1).trans s4, k4⟩
      | true =>
        rw [if_pos rfl] at k4 ⊢
        refine k4 _ (D :: L) σ3 H4 _ (E3.step s4 j4) fun y d n5 H5 s5 j5 r5 ⟨hz, k5⟩ => ?_
        have s45 := s4.trans s5
        refine ⟨xs, own s45, by rw [hacc.length]; exact hz, n5, xs ++ [y], acc ++ [d], ?_, upd_same, ?_, ?_, k5⟩
        · have Eb := back s45 j5
          obtain ⟨Ls5, sl5, sb5⟩ := Eb.slots
          have e5 := sl5.inj slw
          subst e5
          exact Eb.grow List.mem_cons_self sl5 sb5 fun q => DnL ((sbw.trans sb).subset q)
        · have hm : D ∈ (D :: L) ++ c.O := List.mem_append_left _ List.mem_cons_self
          rw [hid_upd_in hm]
          exact (accs s45).append (.cons r5 .nil)
        · exact same_upd_old hD ((sB.trans z.1).trans s45)
  · left
    have e : i = ds.length := by omega
    subst e
    refine ⟨it.stop (D :: L) n' H' _ _ E' _ (Nat.le_refl _), ?_⟩
    exact q D xs acc n' H' (s1.trans sB) (E.noneB s1 j1 hD) hDx hacc E'.bag (hd n' acc hI)
end
end L3
/-! L3d: operations over data. -/
namespace L3
open PySem L2

/-! ### data as the library's data -/
mutual
def dpy : D → PyData
  | .non => .none
  | .bl b => .bool b
  | .int i => .int i
  | .str s => .str s
  | .lst xs => .list (dpyAll xs)
  | .tup xs => .tuple (dpyAll xs)
  | .obj _ _ => .none
  | .dct _ => .none
  | .dcn _ _ _ => .none
  | .adr _ => .none
  | .ty _ => .none
def dpyAll : List D → List PyData
  | [] => []
  | x :: xs => dpy x :: dpyAll xs
end
mutual
def plain : D → Bool
  | .lst xs => plainAll xs
  | .tup xs => plainAll xs
  | .obj _ _ => false
  | .dct _ => false
  | .dcn _ _ _ => false
  | .adr _ => false
  | .ty _ => false
  | _ => true
def plainAll : List D → Bool
  | [] => true
  | x :: xs => plain x && plainAll xs
end
theorem dpyAll_map : ∀ xs : List D, dpyAll xs = xs.map dpy
  | [] => rfl
  | x :: xs => by show dpy x :: dpyAll xs = _; rw [dpyAll_map xs]; rfl
section
variable {K : PySem.W.Frag} {H : Hp}
mutual
theorem dp_D : ∀ (d : D) (v : V), Rp K H v d → plain d = true → Dp K H v (dpy d)
  | .non, _, h, _ => by cases h; exact .non
  | .bl b, _, h, _ => by cases h; exact .bl b
  | .int i, _, h, _ => by cases h; exact .int i
  | .str x, _, h, _ => by cases h; exact .str x
  | .lst xs, _, h, p => by
    cases h with
    | lst h r => exact .lst (.inl h) (dp_Ds xs _ r p)
  | .tup xs, _, h, p => by
    cases h with
    | tup h r => exact .tup h (dp_Ds xs _ r p)
  | .obj _ _, _, _, p => by cases p
  | .adr _, _, _, p => by cases p
  | .ty _, _, _, p => by cases p
  | .dct _, _, _, p => by cases p
  | .dcn _ _ _, _, _, p => by cases p
theorem dp_Ds : ∀ (ds : List D) (vs : List V), RpAll K H vs ds → plainAll ds = true → DpAll K H vs (dpyAll ds)
  | [], _, h, _ => by cases h; exact .nil
  | x :: xs, _, h, p => by
    cases h with
    | cons h r =>
      have p' : (plain x && plainAll xs) = true := p
      rw [Bool.and_eq_true] at p'
      exact .cons (dp_D x _ h p'.1) (dp_Ds xs _ r p'.2)
end
theorem Rp.dp {v : V} {d : D} (h : Rp K H v d) (p : plain d = true) : Dp K H v (dpy d) := dp_D d v h p
theorem RpAll.dp {vs : List V} {ds : List D} (h : RpAll K H vs ds) (p : plainAll ds = true) : DpAll K H vs (dpyAll ds) := dp_Ds ds vs h p
mutual
theorem Dp.mono {H' : Hp} (e : Same H H') : ∀ {v : V} {d : PyData}, Dp K H v d → Dp K H' v d
  | _, _, .non => .non
  | _, _, .bl b => .bl b
  | _, _, .int i => .int i
  | _, _, .str x => .str x
  | _, _, .lst h r => .lst (same_l e h) (DpAll.mono e r)
  | _, _, .tup h r => .tup (same_t e h) (DpAll.mono e r)
theorem DpAll.mono {H' : Hp} (e : Same H H') : ∀ {vs : List V} {ds : List PyData}, DpAll K H vs ds → DpAll K H' vs ds
  | _, _, .nil => .nil
  | _, _, .cons h r => .cons (Dp.mono e h) (DpAll.mono e r)
end
end
/-- fit for == -/
def fit (d : D) : Bool := plain d && SeqAt.shaped (dpy d)
def eqD (d e : D) : Bool := PyData.eqv (dpy d) (dpy e)
theorem fit_p {d : D} (h : fit d = true) : plain d = true := (Bool.and_eq_true_iff.mp h).1
theorem fit_s {d : D} (h : fit d = true) : SeqAt.shaped (dpy d) = true := (Bool.and_eq_true_iff.mp h).2
section
variable {K : PySem.W.Frag} {Φ : D → Prop}
theorem r2_eqD {d e : D} (hd : fit d = true) (he : fit e = true) (k : Φ (.bl (eqD d e))) : R2D K (rEqD K) d e Φ := fun O H x y Q rx ry _ q =>
  ⟨dpy d, dpy e, Dp.mono same_hid (rx.dp (fit_p hd)), Dp.mono same_hid (ry.dp (fit_p he)), fit_s hd, fit_s he, q _ _ H (Same.refl _) (.bl _) k⟩
theorem r2_neD {d e : D} (hd : fit d = true) (he : fit e = true) (k : Φ (.bl (!eqD d e))) : R2D K (rNeD K) d e Φ := fun O H x y Q rx ry _ q =>
  ⟨dpy d, dpy e, Dp.mono same_hid (rx.dp (fit_p hd)), Dp.mono same_hid (ry.dp (fit_p he)), fit_s hd, fit_s he, q _ _ H (Same.refl _) (.bl _) k⟩
end
/-- in, over a list or a tuple of data -/
def rInS (K : PySem.W.Frag) (neg : Bool) : R2 := fun x y H Q => ∃ d ds, Dp K H x d ∧ (Dp K H y (.list ds) ∨ Dp K H y (.tuple ds)) ∧ SeqAt.shaped d = true ∧ SeqAt.shaped (.list ds) = true ∧ Q (.bl (if neg then !ds.any fun z => PyData.eqv z d else ds.any fun z => PyData.eqv z d)) H
theorem op_inSeq {X : Cx} (hu : X.A.units + 65 < cLine) : OpR X (compareOp .In) (rInS X.K false) := by
  intro pins s σ H x y v u Q I rx ry h
  obtain ⟨d, ds, hd, he | he, sd, se, q⟩ := h
  · obtain ⟨as, r1⟩ := Dp.reads I d x v hd rx
    obtain ⟨bs, r2⟩ := Dp.reads I (.list ds) y u he ry
    exact SeqAt.in_list_reads r2 r1 (SeqAt.canLay_of_shaped se) (SeqAt.canLay_of_shaped sd) (PyProof.Rows.room_in_shaped sd hu) ⟨.bl _, H, I, rfl, q⟩
  · obtain ⟨as, r1⟩ := Dp.reads I d x v hd rx
    obtain ⟨bs, r2⟩ := Dp.reads I (.tuple ds) y u he ry
    exact SeqAt.in_tuple_reads r2 r1 (SeqAt.canLay_of_shaped se) (SeqAt.canLay_of_shaped sd) (PyProof.Rows.room_in_shaped sd hu) ⟨.bl _, H, I, rfl, q⟩
theorem op_notInSeq {X : Cx} (hu : X.A.units + 65 < cLine) : OpR X (compareOp .NotIn) (rInS X.K true) := by
  intro pins s σ H x y v u Q I rx ry h
  obtain ⟨d, ds, hd, he | he, sd, se, q⟩ := h
  · obtain ⟨as, r1⟩ := Dp.reads I d x v hd rx
    obtain ⟨bs, r2⟩ := Dp.reads I (.list ds) y u he ry
    exact SeqAt.notIn_list_reads r2 r1 (SeqAt.canLay_of_shaped se) (SeqAt.canLay_of_shaped sd) (PyProof.Rows.room_in_shaped sd hu) ⟨.bl _, H, I, rfl, q⟩
  · obtain ⟨as, r1⟩ := Dp.reads I d x v hd rx
    obtain ⟨bs, r2⟩ := Dp.reads I (.tuple ds) y u he ry
    exact SeqAt.notIn_tuple_reads r2 r1 (SeqAt.canLay_of_shaped se) (SeqAt.canLay_of_shaped sd) (PyProof.Rows.room_in_shaped sd hu) ⟨.bl _, H, I, rfl, q⟩
def inD (d : D) (ds : List D) : Bool := ds.any fun z => eqD z d
theorem inD_py (d : D) (ds : List D) : ((dpyAll ds).any fun z => PyData.eqv z (dpy d)) = inD d ds := by
  rw [dpyAll_map, List.any_map]; rfl
theorem r2_in {K : PySem.W.Frag} {Φ : D → Prop} {d e : D} {ds : List D} (hs : seqD e = some ds) (hd : fit d = true) (he : fit (.lst ds) = true) (k : Φ (.bl (inD d ds))) : R2D K (rInS K false) d e Φ := fun O H x y Q rx ry _ q => by
  have z : PyData.list (dpyAll ds) = dpy (.lst ds) := rfl
  refine ⟨dpy d, dpyAll ds, Dp.mono same_hid (rx.dp (fit_p hd)), ?_, fit_s hd, fit_s he, ?_⟩
  · cases ry with
    | lst h r => cases hs; exact .inl (Dp.mono same_hid (.lst (.inl h) (r.dp (fit_p he))))
    | tup h r => cases hs; exact .inr (Dp.mono same_hid (.tup h (r.dp (fit_p he))))
    | _ => cases hs
  · show Q (.bl (if false = true then _ else ((dpyAll ds).any fun z => PyData.eqv z (dpy d)))) H
    rw [if_neg Bool.false_ne_true, inD_py]
    exact q _ _ H (Same.refl _) (.bl _) k
theorem r2_notIn {K : PySem.W.Frag} {Φ : D → Prop} {d e : D} {ds : List D} (hs : seqD e = some ds) (hd : fit d = true) (he : fit (.lst ds) = true) (k : Φ (.bl (!inD d ds))) : R2D K (rInS K true) d e Φ := fun O H x y Q rx ry _ q => by
  refine ⟨dpy d, dpyAll ds, Dp.mono same_hid (rx.dp (fit_p hd)), ?_, fit_s hd, fit_s he, ?_⟩
  · cases ry with
    | lst h r => cases hs; exact .inl (Dp.mono same_hid (.lst (.inl h) (r.dp (fit_p he))))
    | tup h r => cases hs; exact .inr (Dp.mono same_hid (.tup h (r.dp (fit_p he))))
    | _ => cases hs
  · show Q (.bl (if true = true then !((dpyAll ds).any fun z => PyData.eqv z (dpy d)) else _)) H
    rw [if_pos rfl, inD_py]
    exact q _ _ H (Same.refl _) (.bl _) k

/-! ### subscripts, slices -/
def ixD : D → Int → Option D
  | .lst xs, i => atI xs i
  | .tup xs, i => atI xs i
  | .str z, i => if z.length ≤ sizeLine then (atI z.cps.toList i).map fun c => .str ⟨#[c]⟩ else none
  | _, _ => none
theorem atI_rp {K : PySem.W.Frag} {H : Hp} {vs : List V} {ds : List D} {i : Int} {d : D} (r : RpAll K H vs ds) (h : atI ds i = some d) : ∃ v, atI vs i = some v ∧ Rp K H v d := by
  unfold atI at h ⊢
  rw [r.length]
  cases e : ixN ds.length i with
  | none => rw [e] at h; cases h
  | some j =>
    rw [e] at h
    exact r.get' h
theorem r2_ix {K : PySem.W.Frag} {Φ : D → Prop} {d f : D} {i : Int} (h : ixD d i = some f) (k : Φ f) : R2D K (rIx K) d (.int i) Φ := fun O H x y Q rx ry _ q => by
  cases ry
  cases rx with
  | lst hs r =>
    obtain ⟨v, h1, h2⟩ := atI_rp r h
    exact .inl ⟨_, _, i, v, rfl, rfl, .inl (same_rd same_hid hs), h1, q v f H (Same.refl _) h2 k⟩
  | tup hs r =>
    obtain ⟨v, h1, h2⟩ := atI_rp r h
    exact .inr (.inl ⟨_, _, i, v, rfl, rfl, same_t same_hid hs, h1, q v f H (Same.refl _) h2 k⟩)
  | str z =>
    have h' : (if z.length ≤ sizeLine then (atI z.cps.toList i).map fun c => D.str ⟨#[c]⟩ else none) = some f := h
    by_cases hz : z.length ≤ sizeLine
    · rw [if_pos hz] at h'
      cases e : atI z.cps.toList i with
      | none => rw [e] at h'; cases h'
      | some c =>
        rw [e] at h'
        refine .inr (.inr ⟨z, i, c, rfl, rfl, hz, e, q _ f H (Same.refl _) ?_ k⟩)
        rw [← Option.some.inj h']
        exact .str _
    · rw [if_neg hz] at h'; cases h'
  | _ => cases h
theorem ixD_nat {xs : List D} {j : Nat} {d : D} (h : xs[j]? = some d) : ixD (.lst xs) (j : Int) = some d := atI_nat h
theorem ixD_natT {xs : List D} {j : Nat} {d : D} (h : xs[j]? = some d) : ixD (.tup xs) (j : Int) = some d := atI_nat h
section
variable {c : Ctx} {ρ : List SD} {n : Nat} {ta tb te : TE} {t u : TT} {as : TA} {Φ : Nat → D → Prop} {Ψ : Out} {ts us : TS}
theorem wo_none {Φ : Nat → Option Int → Prop} (k : Φ n none) : WO c tNoPart ρ n Φ := fun P L σ H Q E q => q none n H (Same.refl _) E.bag k
theorem wo_some {Φ : Nat → Option Int → Prop} (h : WE c te ρ n fun n1 d => ∃ i, d = .int i ∧ Φ n1 (some i)) : WO c (tPart te) ρ n Φ := fun P L σ H Q E q => by
  refine h P L σ H _ E fun x d n1 H1 s1 j1 r1 ⟨i, e, k⟩ => ?_
  subst e
  cases r1
  exact ⟨i, rfl, q (some i) n1 H1 s1 j1 k⟩
def rSlS3 (K : PySem.W.Frag) : V → Option Int → Option Int → Hp → VK → Prop := fun x lo hi H Q => rSlL K x lo hi H Q ∨ rSlA K x lo hi H Q ∨ rSlS x lo hi H Q
theorem sl_seq {X : Cx} : SlR X (rSlS3 X.K) := by
  intro pins s σ H x v vl vu lo hi sl Q I rx hs pl pu h
  rcases h with h | h | h
  · exact sl_list pins s σ H x v vl vu lo hi sl Q I rx hs pl pu h
  · exact sl_tupA pins s σ H x v vl vu lo hi sl Q I rx hs pl pu h
  · exact sl_str pins s σ H x v vl vu lo hi sl Q I rx hs pl pu h
def cutD (xs : List D) (lo hi : Option Int) : List D := (xs.drop (HT.sIx xs.length 0 lo)).take (HT.sIx xs.length xs.length hi - HT.sIx xs.length 0 lo)
def slD (d : D) (lo hi : Option Int) : Option D := match d with
  | .lst xs => some (.lst (cutD xs lo hi))
  | .tup xs => some (.tup (cutD xs lo hi))
  | .str z => if z.length ≤ sizeLine then some (.str (cutS z lo hi)) else none
  | _ => none
theorem RpAll.cut {K : PySem.W.Frag} {H : Hp} {vs : List V} {ds : List D} (r : RpAll K H vs ds) (lo hi : Option Int) : RpAll K H (cutV vs lo hi) (cutD ds lo hi) := by
  unfold cutV cutD
  rw [r.length]
  exact (r.drop _).take _
theorem cutD_whole {xs : List D} {lo hi : Option Int} (h : HT.sIx xs.length 0 lo = 0 ∧ HT.sIx xs.length xs.length hi = xs.length) : cutD xs lo hi = xs := by
  unfold cutD
  rw [h.1, h.2]
  simp
theorem we_sl {tl th : TO} (h : WE c te ρ n fun n1 d => WO c tl ρ n1 fun n2 lo => WO c th ρ n2 fun n3 hi => ∃ f, slD d lo hi = some f ∧ Φ n3 f) : WE c (tSl (rSlS3 c.K) te tl th) ρ n Φ := fun P L σ H Q E q => by
  refine h P L σ H _ E fun x d n1 H1 s1 j1 r1 h1 => ?_
  have E1 := E.step s1 j1
  refine h1 P L σ H1 _ E1 fun lo n2 H2 s2 j2 h2 => ?_
  have E2 := E1.step s2 j2
  refine h2 P L σ H2 _ E2 fun hi n3 H3 s3 j3 ⟨f, e, k⟩ => ?_
  have E3 := E2.step s3 j3
  have r3 := (r1.mono (E1.sameLO s2)).mono (E2.sameLO s3)
  have s := (s1.trans s2).trans s3
  cases r3 with
  | @lst a xs ds hs r =>
    cases e
    refine .inl ⟨_, _, rfl, .inl (same_rd same_hid hs), fun p hp => ?_⟩
    have z := E3.newT (o := .lst (cutV xs lo hi)) hp
    exact q _ _ n3 _ (s.trans z.1) z.2.1 (.lst (.inl (hid_at z.2.2)) ((r.cut lo hi).mono (rp_upd (K := c.K) hp))) k
  | @tup a xs ds hs r =>
    cases e
    refine .inr (.inl ⟨_, _, rfl, same_t same_hid hs, fun hw => ?_, fun hw p hp => ?_⟩)
    · rw [r.length] at hw
      rw [cutD_whole hw] at k
      exact q _ _ n3 _ s j3 (.tup hs r) k
    · have z := E3.newT (o := .tup (cutV xs lo hi)) hp
      exact q _ _ n3 _ (s.trans z.1) z.2.1 (.tup (.inl (.inl (hid_at z.2.2))) ((r.cut lo hi).mono (rp_upd (K := c.K) hp))) k
  | str z =>
    have e' : (if z.length ≤ sizeLine then some (D.str (cutS z lo hi)) else none) = some f := e
    by_cases hz : z.length ≤ sizeLine
    · rw [if_pos hz] at e'
      cases e'
      exact .inr (.inr ⟨z, rfl, hz, q _ _ n3 _ s j3 (.str _) k⟩)
    · rw [if_neg hz] at e'; cases e'
  | _ => cases e
end

/-! ### + -/
section
variable {X : Cx}
theorem inv_rdL {pins : List (Addr × Obj)} {σ : St} {H : Hp} {s : Shared} {a : Addr} {xs : List V} (I : Inv X pins σ H s) (h : Rd H a (.lst xs)) : ∃ (its : List Value) (n : Nat), Vals xs its ∧ s.heap.get? a = some { cls := .type "list", data := .seq its.toArray n } ∧ xs.length ≤ sizeLine := by
  obtain ⟨z, its, n, r, e⟩ := h.ok I.hok
  exact ⟨its, n, r, e, z⟩
/-- list + list, whatever is read -/
def rCatL : R2 := fun x y H Q => ∃ l b xs zs, x = .ref l ∧ y = .ref b ∧ Rd H l (.lst xs) ∧ Rd H b (.lst zs) ∧ xs.length + zs.length ≤ sizeLine ∧ ∀ p, H p = none → Q (.ref p) (upd H p (.lst (xs ++ zs)))
theorem op_catL : OpR X (binaryOp .Add) rCatL := by
  intro pins s σ H x y v u Q I rx ry h
  obtain ⟨l, b, xs, zs, rfl, rfl, hH, hB, hz, q⟩ := h
  cases rx
  cases ry
  obtain ⟨its, n, r, e, z⟩ := inv_rdL I hH
  obtain ⟨its2, n2, r2, e2, z2⟩ := inv_rdL I hB
  have h1 := r.length
  have h2 := r2.length
  refine PySem.P.add_list e e2 ?_ (by rw [List.size_toArray, List.size_toArray]; omega)
  have ea : its.toArray ++ its2.toArray = (its ++ its2).toArray := by simp
  rw [ea]
  exact ⟨.ref _, _, I.lnew (t' := s.toks) (r.append r2) (by rw [List.length_append]; omega), rfl, q _ I.fresh⟩
def rAddD (K : PySem.W.Frag) : R2 := fun x y H Q => rI0 (fun i j => .int (i + j)) x y H Q ∨ (∃ i j, x = .str i ∧ y = .str j ∧ i.length + j.length ≤ sizeLine ∧ Q (.str (i ++ j)) H) ∨ rCatA K x y H Q ∨ rCatL x y H Q
theorem op_addD : OpR X (binaryOp .Add) (rAddD X.K) := op_add.or (op_add_str.or (op_catA.or op_catL))
end
def addD : D → D → Option D
  | .int i, .int j => some (.int (i + j))
  | .str s, .str t => if s.length + t.length ≤ sizeLine then some (.str (s ++ t)) else none
  | .lst a, .lst b => if a.length + b.length ≤ sizeLine then some (.lst (a ++ b)) else none
  | .tup a, .tup b => if a.length + b.length ≤ sizeLine then some (.tup (a ++ b)) else none
  | _, _ => none
theorem r2_add {K : PySem.W.Frag} {Φ : D → Prop} {d e f : D} (h : addD d e = some f) (k : Φ f) : R2D K (rAddD K) d e Φ := fun O H x y Q rx ry no q => by
  cases rx with
  | int i =>
    cases ry with
    | int j => cases h; exact .inl ⟨i, j, rfl, rfl, q _ _ H (Same.refl _) (.int _) k⟩
    | _ => cases h
  | str i =>
    cases ry with
    | str j =>
      have h' : (if i.length + j.length ≤ sizeLine then some (D.str (i ++ j)) else none) = some f := h
      by_cases hz : i.length + j.length ≤ sizeLine
      · rw [if_pos hz] at h'
        cases h'
        exact .inr (.inl ⟨i, j, rfl, rfl, hz, q _ _ H (Same.refl _) (.str _) k⟩)
      · rw [if_neg hz] at h'; cases h'
    | _ => cases h
  | @lst a xs ds hs r =>
    cases ry with
    | @lst b ys es hs2 r2 =>
      have h' : (if ds.length + es.length ≤ sizeLine then some (D.lst (ds ++ es)) else none) = some f := h
      by_cases hz : ds.length + es.length ≤ sizeLine
      · rw [if_pos hz] at h'
        cases h'
        refine .inr (.inr (.inr ⟨a, b, xs, ys, rfl, rfl, same_rd same_hid hs, same_rd same_hid hs2, by rw [r.length, r2.length]; exact hz, fun p hp => ?_⟩))
        exact q _ _ _ (same_upd_new hp) (.lst (.inl (hid_at (no p hp))) ((r.append r2).mono (rp_upd (K := K) hp))) k
      · rw [if_neg hz] at h'; cases h'
    | _ => cases h
  | @tup a xs ds hs r =>
    cases ry with
    | @tup b ys es hs2 r2 =>
      have h' : (if ds.length + es.length ≤ sizeLine then some (D.tup (ds ++ es)) else none) = some f := h
      by_cases hz : ds.length + es.length ≤ sizeLine
      · rw [if_pos hz] at h'
        cases h'
        refine .inr (.inr (.inl ⟨a, b, xs, ys, rfl, rfl, same_t same_hid hs, same_t same_hid hs2, by rw [r.length, r2.length]; exact hz, fun e => ?_, fun e1 e2 => ?_, fun _ _ p hp => ?_⟩))
        · subst e
          cases r
          exact q _ _ H (Same.refl _) (.tup hs2 r2) k
        · subst e2
          cases r2
          rw [List.append_nil] at k
          exact q _ _ H (Same.refl _) (.tup hs r) k
        · exact q _ _ _ (same_upd_new hp) (.tup (.inl (.inl (hid_at (no p hp)))) ((r.append r2).mono (rp_upd (K := K) hp))) k
      · rw [if_neg hz] at h'; cases h'
    | _ => cases h
  | _ => cases h
end L3
/-! L3e: calls of built-ins over data; a def's promise over data. -/
namespace L3
open PySem L2

/-! ### len, list, tuple, int, abs -/
section
variable {X : Cx}
def rLenD (K : PySem.W.Frag) : List V → Hp → VK → Prop := fun xs H Q => (∃ p ys, xs = [.ref p] ∧ (SqL K H p ys ∨ SqT K H p ys) ∧ Q (.int ys.length) H) ∨ ∃ z, xs = [.str z] ∧ z.length ≤ sizeLine ∧ Q (.int z.length) H
theorem call_lenX : CallR X (.builtin "len") (rLenD X.K) := call_len_seq.or call_len_str
def rListD (K : PySem.W.Frag) : List V → Hp → VK → Prop := fun xs H Q => ∃ p ys, xs = [.ref p] ∧ (SqL K H p ys ∨ SqT K H p ys) ∧ ∀ l, H l = none → Q (.ref l) (upd H l (.lst ys))
theorem call_listX : CallR X (.type "list") (rListD X.K) := call_list_of
def rTupD (K : PySem.W.Frag) : List V → Hp → VK → Prop := fun xs H Q => ∃ p ys, xs = [.ref p] ∧ ((SqL K H p ys ∧ ∀ l, H l = none → Q (.ref l) (upd H l (.tup ys))) ∨ (SqT K H p ys ∧ Q (.ref p) H))
theorem call_tupX : CallR X (.type "tuple") (rTupD X.K) := call_tuple_of
def rIntD : List V → Hp → VK → Prop := fun xs H Q => (∃ i, xs = [.int i] ∧ Q (.int i) H) ∨ ∃ k, xs = [.bl k] ∧ Q (.int (if k then 1 else 0)) H
theorem call_intX : CallR X (.type "int") rIntD := call_int1
def rAbsD : List V → Hp → VK → Prop := fun xs H Q => ∃ i, xs = [.int i] ∧ Q (.int (if i < 0 then -i else i)) H
theorem call_absX : CallR X (.builtin "abs") rAbsD := call_abs
end
theorem RpAll.one {K : PySem.W.Frag} {H : Hp} {vs : List V} {d : D} (r : RpAll K H vs [d]) : ∃ v, vs = [v] ∧ Rp K H v d := by
  cases r with
  | cons h t => cases t; exact ⟨_, rfl, h⟩
theorem RpAll.two {K : PySem.W.Frag} {H : Hp} {vs : List V} {d e : D} (r : RpAll K H vs [d, e]) : ∃ v u, vs = [v, u] ∧ Rp K H v d ∧ Rp K H u e := by
  cases r with
  | cons h t =>
    obtain ⟨u, e, h2⟩ := t.one
    exact ⟨_, u, by rw [e], h, h2⟩
section
variable {K : PySem.W.Frag} {Φ : D → Prop}
def lenD : D → Option Int
  | .lst xs => some xs.length
  | .tup xs => some xs.length
  | .str z => if z.length ≤ sizeLine then some z.length else none
  | _ => none
theorem rc_len {d : D} {m : Int} (h : lenD d = some m) (k : Φ (.int m)) : RCD K (rLenD K) [d] Φ := fun O H xs Q rs no q => by
  obtain ⟨v, rfl, r⟩ := rs.one
  cases r with
  | @lst a ys ds hs ha =>
    refine .inl ⟨a, ys, rfl, .inl (.inl (same_rd same_hid hs)), q _ _ H (Same.refl _) (.int _) ?_⟩
    rw [ha.length, Option.some.inj (show some ((ds.length : Nat) : Int) = some m from h)]
    exact k
  | @tup a ys ds hs ha =>
    refine .inl ⟨a, ys, rfl, .inr (same_t same_hid hs), q _ _ H (Same.refl _) (.int _) ?_⟩
    rw [ha.length, Option.some.inj (show some ((ds.length : Nat) : Int) = some m from h)]
    exact k
  | str z =>
    have h' : (if z.length ≤ sizeLine then some ((z.length : Nat) : Int) else none) = some m := h
    by_cases hz : z.length ≤ sizeLine
    · rw [if_pos hz] at h'
      refine .inr ⟨z, rfl, hz, q _ _ H (Same.refl _) (.int _) ?_⟩
      rw [Option.some.inj h']
      exact k
    · rw [if_neg hz] at h'; cases h'
  | _ => cases h
theorem rc_list {d : D} {ds : List D} (h : seqD d = some ds) (k : Φ (.lst ds)) : RCD K (rListD K) [d] Φ := fun O H xs Q rs no q => by
  obtain ⟨v, rfl, r⟩ := rs.one
  cases r with
  | @lst a ys ds hs ha =>
    cases h
    exact ⟨a, ys, rfl, .inl (.inl (same_rd same_hid hs)), fun l hl => q _ _ _ (same_upd_new hl) (.lst (.inl (hid_at (no l hl))) (ha.mono (rp_upd (K := K) hl))) k⟩
  | @tup a ys ds hs ha =>
    cases h
    exact ⟨a, ys, rfl, .inr (same_t same_hid hs), fun l hl => q _ _ _ (same_upd_new hl) (.lst (.inl (hid_at (no l hl))) (ha.mono (rp_upd (K := K) hl))) k⟩
  | _ => cases h
theorem rc_tup {d : D} {ds : List D} (h : seqD d = some ds) (k : Φ (.tup ds)) : RCD K (rTupD K) [d] Φ := fun O H xs Q rs no q => by
  obtain ⟨v, rfl, r⟩ := rs.one
  cases r with
  | @lst a ys ds hs ha =>
    cases h
    exact ⟨a, ys, rfl, .inl ⟨.inl (same_rd same_hid hs), fun l hl => q _ _ _ (same_upd_new hl) (.tup (.inl (.inl (hid_at (no l hl)))) (ha.mono (rp_upd (K := K) hl))) k⟩⟩
  | @tup a ys ds hs ha =>
    cases h
    exact ⟨a, ys, rfl, .inr ⟨same_t same_hid hs, q _ _ H (Same.refl _) (.tup hs ha) k⟩⟩
  | _ => cases h
theorem rc_int {i : Int} (k : Φ (.int i)) : RCD K rIntD [.int i] Φ := fun O H xs Q rs no q => by
  obtain ⟨v, rfl, r⟩ := rs.one
  cases r
  exact .inl ⟨i, rfl, q _ _ H (Same.refl _) (.int _) k⟩
theorem rc_intB {b : Bool} (k : Φ (.int (if b then 1 else 0))) : RCD K rIntD [.bl b] Φ := fun O H xs Q rs no q => by
  obtain ⟨v, rfl, r⟩ := rs.one
  cases r
  exact .inr ⟨b, rfl, q _ _ H (Same.refl _) (.int _) k⟩
theorem rc_abs {i : Int} (k : Φ (.int (if i < 0 then -i else i))) : RCD K rAbsD [.int i] Φ := fun O H xs Q rs no q => by
  obtain ⟨v, rfl, r⟩ := rs.one
  cases r
  exact ⟨i, rfl, q _ _ H (Same.refl _) (.int _) k⟩
/-- sum, max, min of a list of ints; any, all of a list of truths -/
theorem rc_sum {ns : List Int} (k : Φ (.int ns.sum)) : RCD K (rSum K) [.lst (ns.map D.int)] Φ := fun O H xs Q rs no q => by
  obtain ⟨v, rfl, r⟩ := rs.one
  cases r with
  | @lst a ys ds hs ha =>
    have e := ha.ints
    subst e
    exact ⟨a, ns, rfl, .inl (same_rd same_hid hs), q _ _ H (Same.refl _) (.int _) k⟩
theorem rc_max {ns : List Int} (hn : 0 < ns.length) (k : ∀ m, m ∈ ns → (∀ y ∈ ns, y ≤ m) → Φ (.int m)) : RCD K (rMax K) [.lst (ns.map D.int)] Φ := fun O H xs Q rs no q => by
  obtain ⟨v, rfl, r⟩ := rs.one
  cases r with
  | @lst a ys ds hs ha =>
    have e := ha.ints
    subst e
    exact ⟨a, ns, rfl, .inl (same_rd same_hid hs), hn, fun m h1 h2 => q _ _ H (Same.refl _) (.int _) (k m h1 h2)⟩
theorem rc_min {ns : List Int} (hn : 0 < ns.length) (k : ∀ m, m ∈ ns → (∀ y ∈ ns, m ≤ y) → Φ (.int m)) : RCD K (rMin K) [.lst (ns.map D.int)] Φ := fun O H xs Q rs no q => by
  obtain ⟨v, rfl, r⟩ := rs.one
  cases r with
  | @lst a ys ds hs ha =>
    have e := ha.ints
    subst e
    exact ⟨a, ns, rfl, .inl (same_rd same_hid hs), hn, fun m h1 h2 => q _ _ H (Same.refl _) (.int _) (k m h1 h2)⟩
theorem RpAll.bls {H : Hp} : ∀ {vs : List V} {bs : List Bool}, RpAll K H vs (bs.map D.bl) → vs = bs.map V.bl
  | _, [], h => by cases h; rfl
  | _, n :: ns, h => by
    cases h with
    | cons h r => cases h; rw [RpAll.bls r]; rfl
theorem rc_any {bs : List Bool} (k : Φ (.bl (bs.any id))) : RCD K (rAny K) [.lst (bs.map D.bl)] Φ := fun O H xs Q rs no q => by
  obtain ⟨v, rfl, r⟩ := rs.one
  cases r with
  | @lst a ys ds hs ha =>
    have e := ha.bls
    subst e
    exact ⟨a, bs, rfl, .inl (same_rd same_hid hs), q _ _ H (Same.refl _) (.bl _) k⟩
theorem rc_all {bs : List Bool} (k : Φ (.bl (bs.all id))) : RCD K (rAll K) [.lst (bs.map D.bl)] Φ := fun O H xs Q rs no q => by
  obtain ⟨v, rfl, r⟩ := rs.one
  cases r with
  | @lst a ys ds hs ha =>
    have e := ha.bls
    subst e
    exact ⟨a, bs, rfl, .inl (same_rd same_hid hs), q _ _ H (Same.refl _) (.bl _) k⟩

/-! ### isinstance with built-in types -/
def tyD : D → Option String
  | .non => some "NoneType"
  | .bl _ => some "bool"
  | .int _ => some "int"
  | .str _ => some "str"
  | .lst _ => some "list"
  | .tup _ => some "tuple"
  | _ => none
theorem tyD_X {H : Hp} {O : List Addr} {v : V} {d : D} {T : String} (r : Rp K (hid O H) v d) (h : tyD d = some T) : TyX K H v (.type T) := by
  cases r with
  | non => cases h; exact .base .non
  | bl b => cases h; exact .base (.bl b)
  | int i => cases h; exact .base (.int i)
  | str x => cases h; exact .base (.str x)
  | lst hs ha =>
    cases h
    rcases same_rd same_hid hs with e | ⟨o, e⟩
    · exact .base (.lst e)
    · exact .base (.frz e)
  | tup hs ha =>
    cases h
    rcases same_t same_hid hs with (e | ⟨o, e⟩) | ⟨o, its, n, hk, hc, _⟩
    · exact .base (.tup e)
    · exact .fTuple e
    · exact .kTuple hk hc
  | _ => cases h
theorem rc_isi {d : D} {T U : String} {b : Bool} (h : tyD d = some T) (hk : kitB T U = some b) (k : Φ (.bl b)) : RCD K (rIsi K) [d, .ty U] Φ := fun O H xs Q rs no q => by
  obtain ⟨v, u, rfl, r1, r2⟩ := rs.two
  cases r2
  exact ⟨v, .ty U, .type T, .type U, b, rfl, .ty U, tyD_X r1 h, kit_ty hk, q _ _ H (Same.refl _) (.bl _) k⟩
end

/-! ### sorted of data -/
section
variable {X : Cx}
abbrev LeD : D → D → Bool := PySem.W.dataLe false dpy
def sortD (ds : List D) : List D := ds.mergeSort LeD
def rSortD (K : PySem.W.Frag) : List V → Hp → VK → Prop := fun vs H Q => ∃ (O : List Addr) (v : V) (ds : List D), vs = [v] ∧ Rp K (hid O H) v (.lst ds) ∧ plainAll ds = true ∧ PySem.W.AllAlike (ds.map dpy) ∧ PySem.W.Sortable (ds.map dpy) ∧ ds.length ≤ sizeLine ∧
  (∀ d ∈ ds, (dpy d).depth ≤ 50) ∧ ∀ l ys, H l = none → RpAll K (hid O H) ys (sortD ds) → Q (.ref l) (upd H l (.lst ys))
theorem plainAll_mem : ∀ {ds : List D} {d : D}, plainAll ds = true → d ∈ ds → plain d = true
  | e :: ds, d, h, hd => by
    have h' : (plain e && plainAll ds) = true := h
    rw [Bool.and_eq_true] at h'
    rcases List.mem_cons.mp hd with q | q
    · rw [q]; exact h'.1
    · exact plainAll_mem h'.2 q
theorem each_rp {K : PySem.W.Frag} {H : Hp} : ∀ {vs : List V} {us : List Value} {ds : List D}, Vals vs us → RpAll K H vs ds → PySem.W.EachIs (fun (u : Value) (d : D) => ∃ v, RelV v u ∧ Rp K H v d) us ds
  | _, _, _, .nil, .nil => .nil
  | _, _, _, .cons r t, .cons h s => .cons ⟨_, r, h⟩ (each_rp t s)
theorem rp_each {K : PySem.W.Frag} {H : Hp} : ∀ {us : List Value} {ds : List D}, PySem.W.EachIs (fun (u : Value) (d : D) => ∃ v, RelV v u ∧ Rp K H v d) us ds → ∃ vs, Vals vs us ∧ RpAll K H vs ds
  | _, _, .nil => ⟨[], .nil, .nil⟩
  | _, _, .cons ⟨v, r, h⟩ t => by
    obtain ⟨vs, h1, h2⟩ := rp_each t
    exact ⟨v :: vs, .cons r h1, .cons h h2⟩
theorem cr_sortD (hu : X.A.units + 64 < cLine) : CallR X (.builtin "sorted") (rSortD X.K) := by
  intro pins s σ H vs us Q I r h
  obtain ⟨O, v, ds, rfl, rv, hp, hal, hk, hL, hdep, q⟩ := h
  cases rv with
  | @lst a xs _ hs ha =>
    rw [Vals.ref1 r]
    obtain ⟨its, n, rv, e, hz⟩ := inv_rdL I (same_rd same_hid hs)
    have el := each_rp rv ha
    have er : PySem.W.EachIs (fun (u : Value) (d : D) => ∃ as, Reads s.heap u (dpy d) as) its ds := by
      refine (PySem.W.each_mem el).mono ?_
      rintro u d ⟨⟨v, r1, r2⟩, hd⟩
      exact Dp.reads I (dpy d) v u (Dp.mono same_hid (r2.dp (plainAll_mem hp hd))) r1
    refine PySem.W.sorted_data (s := s) ⟨_, e, rfl, n, rfl⟩ el er hal hk hL (fun d hd => by have := hdep d hd; omega) fun out ho eo => ?_
    obtain ⟨ys, h1, h2⟩ := rp_each eo
    obtain ⟨ep, he'⟩ := PyProof.Rows.sortedAll_at s.heap its out.toArray
    have hlen : ys.length ≤ sizeLine := by rw [h1.length, ho]; exact hL
    exact ⟨.ref _, upd H (s.heap.objs.size + 1) (.lst ys), I.laid (t' := s.toks) (fun _ _ => PyProof.Rows.sortedAll_old) (Nat.le_succ _) ⟨hlen, out, ep, h1, he'⟩, rfl, q _ ys (I.hok.fresh (Nat.le_succ _)) h2⟩
end
theorem rc_sort {K : PySem.W.Frag} {Φ : D → Prop} {ds : List D} (hp : plainAll ds = true) (hal : PySem.W.AllAlike (ds.map dpy)) (hk : PySem.W.Sortable (ds.map dpy)) (hL : ds.length ≤ sizeLine) (hd : ∀ d ∈ ds, (dpy d).depth ≤ 50) (k : Φ (.lst (sortD ds))) : RCD K (rSortD K) [.lst ds] Φ := fun O H xs Q rs no q => by
  obtain ⟨v, rfl, r⟩ := rs.one
  exact ⟨O, v, ds, rfl, r, hp, hal, hk, hL, hd, fun l ys hl h => q _ _ _ (same_upd_new hl) (.lst (.inl (hid_at (no l hl))) (h.mono (rp_upd (K := K) hl))) k⟩
end L3
/-! L3f: a def's promise over data; methods of own lists. -/
namespace L3
open PySem L2

/-- the slots at a def's entry -/
def rho (N : List Str) (ds : List D) : List SD := ds.map SD.val ++ List.replicate (N.length - ds.length) .un
theorem slots_un {pr : Program} {wd : World} {K : PySem.W.Frag} {O : List Addr} {H : Hp} : ∀ m : Nat, Slots pr wd K O H (List.replicate m none) (List.replicate m .un) []
  | 0 => .nil
  | m + 1 => .un (slots_un m)
theorem slots_start {pr : Program} {wd : World} {K : PySem.W.Frag} {O : List Addr} {H : Hp} {m : Nat} : ∀ {vs : List V} {ds : List D}, RpAll K (hid O H) vs ds → Slots pr wd K O H (vs.map some ++ List.replicate m none) (ds.map SD.val ++ List.replicate m .un) []
  | _, _, .nil => slots_un m
  | _, _, .cons h r => .val h (slots_start r)
section
variable {P : Program} {w : World} {K : PySem.W.Frag} {mg : Str → Option Value} {base : Heap}
/-- THE RULE: a def by its body, over data -/
theorem fn_D {x qual : Str} {st : Stmt} {f : Addr} {fd : FuncData} {N ps : List Str} {k : Nat} {S : Spec} (F : Fun K x qual st f fd) (sc : FnScope N ps (defScope st))
    (len : ∀ bag n ds Φ, S bag n ds Φ → ds.length = ps.length)
    (body : ∀ (cdv : Value) (A : Around) (outer : List PySem.Env) (s : Shared) (H : Hp) (E : XK) (O : List Addr) (bag : Option (Addr × Addr)) (n : Nat) (ds : List D) (Φ : Nat → D → Prop), Room k (A.deeper (PyProof.Rows.envOfC qual (defScope st) s.heap.objs.size f cdv)) → S bag n ds Φ →
      ∃ t, PSs (cxOf CX0 P w K mg base N qual (defScope st) f cdv A outer s H E).nox (defBody st) t ∧ WS ⟨P, w, K, O, bag, H⟩ t (rho N ds) n { nx := fun n' _ => Φ n' .non, rt := Φ }) :
    FnOk P w K mg base CX0 (k + 1) f fd ps (spD K S) := by
  refine F.ok sc (fun vs H Q E h => ?_) (fun cdv A outer s H vs Q E hr h => ?_)
  · obtain ⟨O, bag, n, ds, Φ, _, _, r, hS, _⟩ := h
    rw [r.length]; exact len bag n ds Φ hS
  · obtain ⟨O, bag, n, ds, Φ, hb, hO, r, hS, q⟩ := h
    obtain ⟨t, ht, W⟩ := body cdv A outer s H E O bag n ds Φ hr hS
    refine ⟨t, ht, W (fun _ => none) [] _ H _ ?_ ?_⟩
    · have e : L2.start N vs = vs.map some ++ List.replicate (N.length - ds.length) none := by unfold L2.start; rw [r.length]
      exact { nd := List.nodup_nil, fresh := (fun l hl => nomatch hl), slots := ⟨[], by rw [e]; exact slots_start r, List.Sublist.refl _⟩, lst := (fun l hl => nomatch hl), bag := fun b q e => (hb b q e).1, base := Same.refl _,
              pers := (fun _ _ e => nomatch e), bO := fun b q e => (hb b q e).2, al := hO }
    · exact { nx := fun L n' H' σ ρ E k => q .non .non n' H' E.base (fun b q e => E.bag b q e) .non k,
              rt := fun v d n' H' s j r k => q v d n' H' s j r k, bk := fun _ _ _ _ _ _ k => k.elim, ct := fun _ _ _ _ _ _ k => k.elim }
end

/-! ### an own list's methods -/
section
variable {c : Ctx} {ρ : List SD} {n : Nat} {ta tb te : TE} {t u : TT} {as : TA} {Φ : Nat → D → Prop} {Ψ : Out} {ts us : TS}
/-- at an own slot the list is another one -/
theorem Slots.own_at {pr : Program} {wd : World} {K : PySem.W.Frag} {O : List Addr} {H : Hp} {ds es : List D} : ∀ {σ : List (Option V)} {ρ : List SD} {L : List Addr} {i : Nat}, Slots pr wd K O H σ ρ L → L.Nodup → ρ[i]? = some (.own ds) → ∃ l xs, σ[i]? = some (some (.ref l)) ∧ l ∈ L ∧ H l = some (.lst xs) ∧ RpAll K (hid O H) xs ds ∧
    ∀ (ys : List V), RpAll K (hid O H) ys es → hid O (upd H l (.lst ys)) = hid O H → Slots pr wd K O (upd H l (.lst ys)) σ (ρ.set i (.own es)) L
  | _, _, _, _, .nil, _, e => by simp at e
  | _, _, _, 0, .un _, _, e => by simp at e
  | _, _, _, i + 1, .un s, nd, e => by
    obtain ⟨l, xs, h1, h2, h3, h4, h5⟩ := Slots.own_at (i := i) s nd (by simpa using e)
    exact ⟨l, xs, by simpa using h1, h2, h3, h4, fun ys a b => .un (h5 ys a b)⟩
  | _, _, _, 0, .val _ _, _, e => by simp at e
  | _, _, _, i + 1, .val r s, nd, e => by
    obtain ⟨l, xs, h1, h2, h3, h4, h5⟩ := Slots.own_at (i := i) s nd (by simpa using e)
    exact ⟨l, xs, by simpa using h1, h2, h3, h4, fun ys a b => .val (by rw [b]; exact r) (h5 ys a b)⟩
  | _, _, _, 0, .own h r s, nd, e => by
    simp at e
    subst e
    exact ⟨_, _, rfl, List.mem_cons_self, h, r, fun ys a b => .own upd_same (by rw [b]; exact a) (s.move (fun l hl => upd_ne fun e => (List.nodup_cons.mp nd).1 (by rw [← e]; exact hl)) (by rw [b]; exact Same.refl _))⟩
  | _, _, _, 0, .dic _ _, _, e => by simp at e
  | _, _, _, 0, .dk _ _, _, e => by simp at e
  | _, _, _, 0, .tw _ _, _, e => by simp at e
  | _, _, _, i + 1, .dic h s, nd, e => by
    obtain ⟨l, xs, h1, h2, h3, h4, h5⟩ := Slots.own_at (i := i) s (List.nodup_cons.mp nd).2 (by simpa using e)
    exact ⟨l, xs, by simpa using h1, List.mem_cons_of_mem _ h2, h3, h4, fun ys a b => .dic (h.move (upd_ne fun e => (List.nodup_cons.mp nd).1 (by rw [e]; exact h2)) (by rw [b]; exact Same.refl _)) (h5 ys a b)⟩
  | _, _, _, i + 1, .dk h s, nd, e => by
    obtain ⟨l, xs, h1, h2, h3, h4, h5⟩ := Slots.own_at (i := i) s (List.nodup_cons.mp nd).2 (by simpa using e)
    exact ⟨l, xs, by simpa using h1, List.mem_cons_of_mem _ h2, h3, h4, fun ys a b => .dk (h.move (upd_ne fun e => (List.nodup_cons.mp nd).1 (by rw [e]; exact h2)) (by rw [b]; exact Same.refl _)) (h5 ys a b)⟩
  | _, _, _, i + 1, .tw h s, nd, e => by
    obtain ⟨l, xs, h1, h2, h3, h4, h5⟩ := Slots.own_at (i := i) s (List.nodup_cons.mp nd).2 (by simpa using e)
    exact ⟨l, xs, by simpa using h1, List.mem_cons_of_mem _ h2, h3, h4, fun ys a b => .tw (h.move (upd_ne fun e => (List.nodup_cons.mp nd).1 (by rw [e]; exact h2)) (by rw [b]; exact Same.refl _)) (h5 ys a b)⟩
  | _, _, _, i + 1, .own h r s, nd, e => by
    obtain ⟨l, xs, h1, h2, h3, h4, h5⟩ := Slots.own_at (i := i) s (List.nodup_cons.mp nd).2 (by simpa using e)
    exact ⟨l, xs, by simpa using h1, List.mem_cons_of_mem _ h2, h3, h4, fun ys a b => .own ((upd_ne fun e => (List.nodup_cons.mp nd).1 (by rw [e]; exact h2)).trans h) (by rw [b]; exact r) (h5 ys a b)⟩
theorem Env.own_at {P : Hp} {L : List Addr} {n : Nat} {H : Hp} {σ : List (Option V)} {i : Nat} {ds : List D} (E : Env c P L n H σ ρ) (h : ρ[i]? = some (.own ds)) : ∃ l xs, σ[i]? = some (some (.ref l)) ∧ H l = some (.lst xs) ∧ RpAll c.K (hid (L ++ c.O) H) xs ds ∧
    ∀ (ys : List V) (es : List D), RpAll c.K (hid (L ++ c.O) H) ys es → Env c P L n (upd H l (.lst ys)) σ (ρ.set i (.own es)) ∧ Same (hid c.B c.H0) (hid c.B (upd H l (.lst ys))) := by
  obtain ⟨Ls, sl, sb⟩ := E.slots
  have nd := sb.nodup E.nd
  obtain ⟨l, xs, h1, h2, h3, h4, _⟩ := sl.own_at (es := ds) nd h
  have lL := sb.subset h2
  have hm : l ∈ L ++ c.O := List.mem_append_left _ lL
  have hO : l ∉ c.O := (E.fresh l lL).2
  refine ⟨l, xs, h1, h3, h4, fun ys es hy => ?_⟩
  have bs : Same (hid c.B c.H0) (hid c.B (upd H l (.lst ys))) := same_upd_old (E.fresh l lL).1 E.base
  refine ⟨?_, bs⟩
  obtain ⟨l', xs', g1, g2, g3, g4, g5⟩ := sl.own_at (es := es) nd h
  rw [h1] at g1
  cases g1
  exact { nd := E.nd, fresh := E.fresh, slots := ⟨Ls, g5 ys hy (hid_upd_in hm), sb⟩,
          lst := fun a ha => by
            by_cases e : a = l
            · exact ⟨_, by rw [e, upd_same]⟩
            · rw [upd_ne e]; exact E.lst a ha,
          bag := fun b q hb => (E.bag b q hb).move (fun o h => by rw [upd_ne fun e : b = l => hO (e ▸ (E.bO b q hb).1)]; exact h) fun o h => by rw [upd_ne fun e : q = l => hO (e ▸ (E.bO b q hb).2.1)]; exact h,
          base := bs, pers := by rw [hid_upd_in hm]; exact E.pers, bO := E.bO,
          al := fun o ho => by rw [upd_ne fun e : o = l => hO (e ▸ ho)]; exact E.al o ho }
/-- x.append(e) -/
theorem ws_append {i : Nat} {ds : List D} (h0 : ρ[i]? = some (.own ds)) (h : WE c te ρ n fun n1 d => ds.length < sizeLine ∧ Ψ.nx n1 (ρ.set i (.own (ds ++ [d])))) : WS c (tDrop (tBM c.K "list" rAppend (tVar i) (tCons te tNil))) ρ n Ψ := fun P L σ H Dn E A => by
  obtain ⟨l, xs, h1, h2, h3, h4⟩ := E.own_at h0
  refine ⟨.ref l, h1, .inl ⟨rfl, xs, .inl (.inl h2)⟩, ?_⟩
  refine h P L σ H _ E fun v d n1 H1 s1 j1 r1 ⟨hz, k⟩ => ?_
  have E1 := E.step s1 j1
  obtain ⟨l', ys, g1, g2, g3, g4⟩ := E1.own_at h0
  rw [h1] at g1
  cases g1
  refine ⟨l, ys, v, rfl, rfl, g2, by rw [g3.length]; exact hz, ?_⟩
  exact A.nx L n1 _ σ _ (g4 (ys ++ [v]) (ds ++ [d]) (g3.append (.cons r1 .nil))).1 k
end
end L3
/-! L3g: the operators one by one; loops with a state; short forms. -/
namespace L3
open PySem L2
section
variable {K : PySem.W.Frag} {Φ : D → Prop} {i j : Int}
theorem r2_lt (k : Φ (.bl (decide (i < j)))) : R2D K (rI0 fun i j => .bl (decide (i < j))) (.int i) (.int j) Φ := r2_int0 (h := fun i j => .bl (decide (i < j))) (fun _ _ _ => .bl _) k
theorem r2_le (k : Φ (.bl (decide (i ≤ j)))) : R2D K (rI0 fun i j => .bl (decide (i ≤ j))) (.int i) (.int j) Φ := r2_int0 (h := fun i j => .bl (decide (i ≤ j))) (fun _ _ _ => .bl _) k
theorem r2_gt (k : Φ (.bl (decide (j < i)))) : R2D K (rI0 fun i j => .bl (decide (j < i))) (.int i) (.int j) Φ := r2_int0 (h := fun i j => .bl (decide (j < i))) (fun _ _ _ => .bl _) k
theorem r2_ge (k : Φ (.bl (decide (j ≤ i)))) : R2D K (rI0 fun i j => .bl (decide (j ≤ i))) (.int i) (.int j) Φ := r2_int0 (h := fun i j => .bl (decide (j ≤ i))) (fun _ _ _ => .bl _) k
theorem r2_sub (k : Φ (.int (i - j))) : R2D K (rI0 fun i j => .int (i - j)) (.int i) (.int j) Φ := r2_int0 (h := fun i j => .int (i - j)) (fun _ _ _ => .int _) k
theorem r2_addI (k : Φ (.int (i + j))) : R2D K (rAddD K) (.int i) (.int j) Φ := r2_add rfl k
theorem r2_mulW (hc : CMulW i j) (k : Φ (.int (i * j))) : R2D K (rI CMulW fun i j => .int (i * j)) (.int i) (.int j) Φ := r2_int (h := fun i j => .int (i * j)) (fun _ _ _ => .int _) hc k
theorem r2_mul (hc : CMul i j) (k : Φ (.int (i * j))) : R2D K (rI CMul fun i j => .int (i * j)) (.int i) (.int j) Φ := r2_int (h := fun i j => .int (i * j)) (fun _ _ _ => .int _) hc k
theorem r2_mod (hc : 0 < j) (k : Φ (.int (i % j))) : R2D K (rI (fun _ j => 0 < j) fun i j => .int (i % j)) (.int i) (.int j) Φ := r2_int (h := fun i j => .int (i % j)) (fun _ _ _ => .int _) hc k
theorem r2_fdivW (hc : CDivW i j) (k : Φ (.int (i / j))) : R2D K (rI CDivW fun i j => .int (i / j)) (.int i) (.int j) Φ := r2_int (h := fun i j => .int (i / j)) (fun _ _ _ => .int _) hc k
theorem r2_fdiv (hc : CDiv i j) (k : Φ (.int (i / j))) : R2D K (rI CDiv fun i j => .int (i / j)) (.int i) (.int j) Φ := r2_int (h := fun i j => .int (i / j)) (fun _ _ _ => .int _) hc k
theorem r2_pow (hc : CPow i j) (k : Φ (.int (i ^ j.toNat))) : R2D K (rI CPow fun i j => .int (i ^ j.toNat)) (.int i) (.int j) Φ := r2_int (h := fun i j => .int (i ^ j.toNat)) (fun _ _ _ => .int _) hc k
theorem r2_cat {a b : List D} (h : a.length + b.length ≤ 16777216) (k : Φ (.lst (a ++ b))) : R2D K (rAddD K) (.lst a) (.lst b) Φ := r2_add (if_pos (by rw [sizeLine_eq]; exact h)) k
theorem r2_catT {a b : List D} (h : a.length + b.length ≤ 16777216) (k : Φ (.tup (a ++ b))) : R2D K (rAddD K) (.tup a) (.tup b) Φ := r2_add (if_pos (by rw [sizeLine_eq]; exact h)) k
theorem r2_catS {a b : Str} (h : a.length + b.length ≤ 16777216) (k : Φ (.str (a ++ b))) : R2D K (rAddD K) (.str a) (.str b) Φ := r2_add (if_pos (by rw [sizeLine_eq]; exact h)) k
theorem r2_isN {d : D} (k : Φ (.bl (isNon d))) : R2D K rIsN d .non Φ := fun O H x y Q rx ry _ q => by
  cases ry
  exact ⟨rfl, by rw [isNon_V rx]; exact q _ _ H (Same.refl _) (.bl _) k⟩
theorem r2_notN {d : D} (k : Φ (.bl (!isNon d))) : R2D K rNotN d .non Φ := fun O H x y Q rx ry _ q => by
  cases ry
  exact ⟨rfl, by rw [isNon_V rx]; exact q _ _ H (Same.refl _) (.bl _) k⟩
theorem r2_eqI (k : Φ (.bl (decide (i = j)))) : R2D K (rEqD K) (.int i) (.int j) Φ := r2_eqD rfl rfl (by
  have e : eqD (.int i) (.int j) = decide (i = j) := by
    show (i == j) = decide (i = j)
    by_cases h : i = j <;> simp [h]
  rw [e]; exact k)
theorem r2_neI (k : Φ (.bl (!decide (i = j)))) : R2D K (rNeD K) (.int i) (.int j) Φ := r2_neD rfl rfl (by
  have e : eqD (.int i) (.int j) = decide (i = j) := by
    show (i == j) = decide (i = j)
    by_cases h : i = j <;> simp [h]
  rw [e]; exact k)
end
section
variable {c : Ctx} {ρ : List SD} {n : Nat} {ta tb te : TE} {t u : TT} {as : TA} {Φ : Nat → D → Prop} {Ψ : Out} {ts us : TS}
theorem itT {b : Bool} {A B : Prop} (h : b = true) (k : A) : if b = true then A else B := by rw [if_pos h]; exact k
theorem itF {b : Bool} {A B : Prop} (h : b = false) (k : B) : if b = true then A else B := by rw [if_neg (by rw [h]; exact Bool.false_ne_true)]; exact k
/-- an item of a mapped list -/
theorem map_at {α β : Type} {f : α → β} {l : List α} {i : Nat} {d : β} (h : (l.map f)[i]? = some d) : ∃ a, l[i]? = some a ∧ d = f a ∧ a ∈ l ∧ l.take (i + 1) = l.take i ++ [a] := by
  rw [List.getElem?_map] at h
  cases e : l[i]? with
  | none => rw [e] at h; cases h
  | some a =>
    rw [e] at h
    exact ⟨a, rfl, (Option.some.inj h).symm, List.mem_of_getElem? e, by rw [List.take_succ, e]; rfl⟩
theorem decT {p : Prop} [Decidable p] {A B : Prop} (h : p) (k : A) : if decide p = true then A else B := by rw [if_pos (decide_eq_true h)]; exact k
theorem decF {p : Prop} [Decidable p] {A B : Prop} (h : ¬ p) (k : B) : if decide p = true then A else B := by rw [if_neg (by simpa using h)]; exact k
theorem dec2 {p : Prop} [Decidable p] {A B : Prop} (h1 : p → A) (h2 : ¬ p → B) : if decide p = true then A else B := by
  by_cases h : p
  · exact decT h (h1 h)
  · exact decF h (h2 h)
theorem decN {p : Prop} [Decidable p] {A B : Prop} (h1 : ¬ p → A) (h2 : p → B) : if (!decide p) = true then A else B := by
  by_cases h : p
  · rw [if_neg (by simpa using h)]; exact h2 h
  · rw [if_pos (by simpa using h)]; exact h1 h
theorem boo2 {b : Bool} {A B : Prop} (h1 : b = true → A) (h2 : b = false → B) : if b = true then A else B := by
  cases b
  · rw [if_neg Bool.false_ne_true]; exact h2 rfl
  · rw [if_pos rfl]; exact h1 rfl
theorem booN {b : Bool} {A B : Prop} (h1 : b = false → A) (h2 : b = true → B) : if (!b) = true then A else B := by
  cases b with
  | false => show (if true = true then A else B); rw [if_pos rfl]; exact h1 rfl
  | true => show (if false = true then A else B); rw [if_neg Bool.false_ne_true]; exact h2 rfl
theorem filt_all {α : Type} (l : List α) : l.filter (fun _ => true) = l := by simp
/-- a comprehension as map and filter: f the element, p the test, of data that the turn knows -/
theorem wf_map {wi : TI} {g : TG} {vs : List Nat} {Φ : Nat → List D → Prop} (f : D → D) (p : D → Bool)
    (h : WI c wi ρ n fun n1 ds => ds.length ≤ 1000000 ∧ (∀ d ∈ ds, ∀ m, WG c (RW vs) g d (wipeR ρ vs) m fun ρ2 => WT c t ρ2 m fun m2 b => m2 = m ∧ b = p d ∧ (b = true → WE c te ρ2 m fun m3 y => m3 = m ∧ y = f d)) ∧ Φ n1 ((ds.filter p).map f)) : WF c (tLc wi g t te vs) ρ n Φ := by
  refine wf_lc ?_
  intro P L σ H R E q
  refine h P L σ H R E fun J ds n' H' s j it ⟨hz, hs, kk⟩ => q J ds n' H' s j it ?_
  refine ⟨fun k m acc => m = n' ∧ acc = ((ds.take k).filter p).map f, ⟨rfl, rfl⟩, ?_, ?_⟩
  · rintro k m acc d hd ⟨e1, e2⟩
    subst e1; subst e2
    have hk : k < ds.length := (List.getElem?_eq_some_iff.mp hd).1
    have ek : ds[k] = d := (List.getElem?_eq_some_iff.mp hd).2
    have tk : ds.take (k + 1) = ds.take k ++ [d] := by rw [List.take_succ, hd]; rfl
    intro P2 L2 σ2 H2 v2 Q2 E2 r2 q2
    refine hs d (List.mem_of_getElem? hd) m P2 L2 σ2 H2 v2 Q2 E2 r2 fun σ3 ρ3 E3 hw hT => q2 σ3 ρ3 E3 hw ?_
    refine hT.mono fun m2 b ⟨e1, e2, he⟩ => ?_
    subst e1
    cases b with
    | true =>
      rw [if_pos rfl]
      refine (he rfl).mono fun m3 y ⟨e3, e4⟩ => ?_
      subst e3; subst e4
      refine ⟨?_, rfl, ?_⟩
      · have h1 : (List.map f (List.filter p (List.take k ds))).length ≤ ds.length := by
          rw [List.length_map]
          exact Nat.le_trans (List.length_filter_le _ _) (by rw [List.length_take]; omega)
        exact Nat.lt_of_le_of_lt (Nat.le_trans h1 hz) (by decide)
      · rw [tk, List.filter_append, List.map_append]
        simp [← e2]
    | false =>
      rw [if_neg Bool.false_ne_true]
      refine ⟨rfl, ?_⟩
      rw [tk, List.filter_append, List.map_append]
      simp [← e2]
  · rintro m acc ⟨e1, e2⟩
    subst e1; subst e2
    rw [List.take_length]
    exact kk
end
end L3
/-! L3h: the rules with the written part K said (within comprehensions it must not hang on the block). -/
namespace L3
open PySem L2
section
variable {X : Cx} (K : PySem.W.Frag)
theorem x_eq (hu : X.A.units + 64 < cLine) (hK : X.K = K := by rfl) : OpR X (compareOp .Eq) (rEqD K) := hK ▸ op_eqD hu
theorem x_ne (hu : X.A.units + 64 < cLine) (hK : X.K = K := by rfl) : OpR X (compareOp .NotEq) (rNeD K) := hK ▸ op_neD hu
theorem x_in (hu : X.A.units + 65 < cLine) (hK : X.K = K := by rfl) : OpR X (compareOp .In) (rInS K false) := hK ▸ op_inSeq hu
theorem x_notIn (hu : X.A.units + 65 < cLine) (hK : X.K = K := by rfl) : OpR X (compareOp .NotIn) (rInS K true) := hK ▸ op_notInSeq hu
theorem x_add (hK : X.K = K := by rfl) : OpR X (binaryOp .Add) (rAddD K) := hK ▸ op_addD
theorem x_ix (hK : X.K = K := by rfl) : IxR X (rIx K) := hK ▸ ix_seq
theorem x_sl (hK : X.K = K := by rfl) : SlR X (rSlS3 K) := hK ▸ sl_seq
theorem x_len (hK : X.K = K := by rfl) : CallR X (.builtin "len") (rLenD K) := hK ▸ call_lenX
theorem x_list (hK : X.K = K := by rfl) : CallR X (.type "list") (rListD K) := hK ▸ call_listX
theorem x_tup (hK : X.K = K := by rfl) : CallR X (.type "tuple") (rTupD K) := hK ▸ call_tupX
theorem x_sum (hc : X.calm = true := by rfl) (hK : X.K = K := by rfl) : CallR X (.builtin "sum") (rSum K) := hK ▸ cr_sum hc
theorem x_max (hc : X.calm = true := by rfl) (hK : X.K = K := by rfl) : CallR X (.builtin "max") (rMax K) := hK ▸ cr_max hc
theorem x_min (hc : X.calm = true := by rfl) (hK : X.K = K := by rfl) : CallR X (.builtin "min") (rMin K) := hK ▸ cr_min hc
theorem x_any (hc : X.calm = true := by rfl) (hK : X.K = K := by rfl) : CallR X (.builtin "any") (rAny K) := hK ▸ cr_any hc
theorem x_all (hc : X.calm = true := by rfl) (hK : X.K = K := by rfl) : CallR X (.builtin "all") (rAll K) := hK ▸ cr_all hc
theorem x_sorted (hu : X.A.units + 64 < cLine) (hK : X.K = K := by rfl) : CallR X (.builtin "sorted") (rSortD K) := hK ▸ cr_sortD hu
theorem x_isi (hK : X.K = K := by rfl) : CallR X (.builtin "isinstance") (rIsi K) := hK ▸ call_isi
theorem x_seq {tg l : Expr} {tl : TE} (hl : PE X l tl) (hK : X.K = K := by rfl) : PI X tg l (iSeq K tl) := hK ▸ pi_seq hl
theorem x_enum {e : Expr} {ta : TA} {p pos tpos : Pos} {elts : List Expr} {kk : Nat} (hg : Gl X "enumerate") (hm : X.mg "enumerate" = none) (ha : PA X [e] ta) (hs : starEach [e] X.env = [(false, eval e X.env)] := by rfl) (hK : X.K = K := by rfl) :
    PI X (.Tuple elts kk tpos) (.Call (.Name "enumerate" p) [e] [] pos) (iEnum K ta) := hK ▸ pi_enum hg hm ha hs
theorem x_tgt {m : Nat} {target : Expr} {t : TGs} (h : PG X target (gTup X.K m t)) (hK : X.K = K := by rfl) : PG X target (gTup K m t) := hK ▸ h
end
end L3
/-! L3i: own dicts whose keys are tuples. -/
namespace L3
open PySem L2
section
variable {X : Cx} {pins : List (Addr × Obj)} {σ : L2.St} {H : Hp} {s : Shared}
mutual
theorem nk_is (I : Inv X pins σ H s) {O : List Addr} : ∀ (d : D) (v : V) (u : Value), Rp X.K (hid O H) v d → RelV v u → nkOk d = true → NestedIs s.heap (nk d) u
  | .non, _, _, h, r, _ => by cases h; cases r; exact .none
  | .int i, _, _, h, r, _ => by cases h; obtain ⟨t, rfl⟩ := r; exact .int i t
  | .str x, _, _, h, r, _ => by cases h; obtain ⟨t, rfl⟩ := r; exact .text x t
  | .tup ds, _, _, h, r, k => by
    cases h with
    | tup hs ha =>
      cases r
      obtain ⟨its, rv, ⟨o, ho, hc, n, hd⟩, _⟩ := I.tuple (same_t same_hid hs)
      exact .tup ho hc hd (by rw [List.toList_toArray]; exact nk_all I ds _ its ha rv k)
  | .bl _, _, _, _, _, k => nomatch k
  | .lst _, _, _, _, _, k => nomatch k
  | .obj _ _, _, _, _, _, k => nomatch k
  | .adr _, _, _, _, _, k => nomatch k
  | .ty _, _, _, _, _, k => nomatch k
  | .dct _, _, _, _, _, k => nomatch k
  | .dcn _ _ _, _, _, _, _, k => nomatch k
theorem nk_all (I : Inv X pins σ H s) {O : List Addr} : ∀ (ds : List D) (vs : List V) (us : List Value), RpAll X.K (hid O H) vs ds → Vals vs us → nkOkAll ds = true → NestedAll s.heap (nkAll ds) us
  | [], _, _, h, r, _ => by cases h; cases r; exact .nil
  | d :: ds, _, _, h, r, k => by
    have h' : (nkOk d && nkOkAll ds) = true := k
    rw [Bool.and_eq_true] at h'
    cases h with
    | cons h1 h2 =>
      cases r with
      | cons r1 r2 => exact .cons (nk_is I d _ _ h1 r1 h'.1) (nk_all I ds _ _ h2 r2 h'.2)
end
theorem key_is (I : Inv X pins σ H s) {O : List Addr} {v : V} {d : D} {u : Value} (h : Rp X.K (hid O H) v d) (r : RelV v u) (k : keyD d = true) : ∃ a, v = .ref a ∧ u = .ref a ∧ (nestedKind X.prog X.w).is s.heap (nk d) a := by
  cases h with
  | @tup a xs ds hs ha =>
    have k' : (nkOkAll ds && decide ((nk (.tup ds)).depth ≤ 8)) = true := k
    rw [Bool.and_eq_true] at k'
    have q := nk_is I _ _ _ (.tup hs ha) r k'.1
    cases r
    exact ⟨a, rfl, rfl, q, of_decide_eq_true k'.2⟩
  | _ => cases k
end
def lookD (kvs : List (D × D)) (k : D) : Option D := (kvs.find? fun kv => decide (nk kv.1 = nk k)).map (·.2)
def putD (kvs : List (D × D)) (k v : D) : List (D × D) := if (lookD kvs k).isSome then kvs.map fun kv => if nk kv.1 = nk k then (kv.1, v) else kv else kvs ++ [(k, v)]
section
variable {K : PySem.W.Frag} {H : Hp}
theorem ent_look {kd : D} : ∀ {kvs : List (D × D)} {xs : List (NestedKey × Addr × Value)}, Paired (EntD K H) kvs xs →
    (lookD kvs kd = none ∧ atKey xs (nk kd) = none) ∨ ∃ v a u w, lookD kvs kd = some v ∧ atKey xs (nk kd) = some (a, u) ∧ RelV w u ∧ Rp K H w v
  | _, _, .nil => .inl ⟨rfl, rfl⟩
  | kv :: kvs, x :: xs, .cons h t => by
    obtain ⟨h1, h2, h3, w, h4, h5⟩ := h
    by_cases e : nk kv.1 = nk kd
    · right
      refine ⟨kv.2, x.2.1, x.2.2, w, ?_, ?_, h4, h5⟩
      · unfold lookD; rw [List.find?_cons_of_pos (by simpa using e)]; rfl
      · unfold atKey; rw [List.find?_cons_of_pos (by simpa [h2] using e)]; rfl
    · have r := ent_look (kd := kd) t
      have e1 : lookD (kv :: kvs) kd = lookD kvs kd := by unfold lookD; rw [List.find?_cons_of_neg (by simpa using e)]
      have e2 : atKey (x :: xs) (nk kd) = atKey xs (nk kd) := by unfold atKey; rw [List.find?_cons_of_neg (by simpa [h2] using e)]
      rw [e1, e2]; exact r
theorem ent_len : ∀ {kvs : List (D × D)} {xs : List (NestedKey × Addr × Value)}, Paired (EntD K H) kvs xs → kvs.length = xs.length
  | _, _, .nil => rfl
  | _, _, .cons _ t => by rw [List.length_cons, List.length_cons, ent_len t]
theorem ent_map {kd vd : D} {u : Value} {w : V} (r : RelV w u) (rw' : Rp K H w vd) : ∀ {kvs : List (D × D)} {xs : List (NestedKey × Addr × Value)}, Paired (EntD K H) kvs xs →
    Paired (EntD K H) (kvs.map fun kv => if nk kv.1 = nk kd then (kv.1, vd) else kv) (xs.map (putAt (nk kd) u))
  | _, _, .nil => .nil
  | kv :: kvs, x :: xs, .cons h t => by
    refine .cons ?_ (ent_map r rw' t)
    obtain ⟨h1, h2, h3, h4⟩ := h
    unfold putAt
    show EntD K H (if nk kv.1 = nk kd then (kv.1, vd) else kv) _
    by_cases e : nk kv.1 = nk kd
    · rw [if_pos e, if_pos (by rw [h2]; exact e)]
      exact ⟨h1, h2, h3, w, r, rw'⟩
    · rw [if_neg e, if_neg (by rw [h2]; exact e)]
      exact ⟨h1, h2, h3, h4⟩
theorem paired_app {α β : Type} {R : α → β → Prop} {a : α} {b : β} (h : R a b) : ∀ {xs : List α} {ys : List β}, Paired R xs ys → Paired R (xs ++ [a]) (ys ++ [b])
  | _, _, .nil => .cons h .nil
  | _, _, .cons q t => .cons q (paired_app h t)
theorem ent_put {kd vd : D} {a : Addr} {u : Value} {w : V} (hk : keyD kd = true) (ra : Rp K H (.ref a) kd) (r : RelV w u) (rw' : Rp K H w vd) {kvs : List (D × D)} {xs : List (NestedKey × Addr × Value)} (h : Paired (EntD K H) kvs xs) :
    Paired (EntD K H) (putD kvs kd vd) (storedH xs (nk kd) a u) := by
  unfold putD storedH
  rcases ent_look (kd := kd) h with ⟨e1, e2⟩ | ⟨v, a', u', w', e1, e2, _⟩
  · rw [e1, e2, if_neg (by simp), if_neg (by simp)]
    exact paired_app ⟨hk, rfl, ra, w, r, rw'⟩ h
  · rw [e1, e2]
    exact ent_map r rw' h
theorem putD_len (kvs : List (D × D)) (k v : D) : (putD kvs k v).length ≤ kvs.length + 1 := by
  unfold putD
  split
  · rw [List.length_map]; omega
  · rw [List.length_append]; exact Nat.le_refl _
end
section
variable {X : Cx} {pins : List (Addr × Obj)} {σ : L2.St} {H : Hp} {s : Shared}
theorem nd_of (I : Inv X pins σ H s) {O : List Addr} {l : Addr} {kvs : List (D × D)} {xs : List (NestedKey × Addr × Value)} (h1 : H l = some (.ext (DictBare X.prog X.w xs l))) (h3 : Paired (EntD X.K (hid O H)) kvs xs) : s.heap.DictOfH (nestedKind X.prog X.w) l xs := by
  obtain ⟨⟨o, es, ep, e1, e2, e3, e4, e5⟩, _⟩ := I.hok l _ h1
  refine ⟨o, es, ep, e1, e2, e3, e4, fun x hx => ?_, e5⟩
  have key : ∀ {kvs : List (D × D)} {xs : List (NestedKey × Addr × Value)}, Paired (EntD X.K (hid O H)) kvs xs → x ∈ xs → (nestedKind X.prog X.w).is s.heap x.1 x.2.1 := by
    intro kvs xs h
    induction h with
    | nil => intro q; cases q
    | cons h t ih =>
      intro q
      rcases List.mem_cons.mp q with q | q
      · subst q
        obtain ⟨g1, g2, g3, _⟩ := h
        obtain ⟨a, ea, eb, is⟩ := key_is I g3 rfl g1
        cases eb
        rw [g2]; exact is
      · exact ih q
  exact key h3 hx
theorem bare_ok {xs : List (NestedKey × Addr × Value)} {l : Addr} {h' : Heap} {pr : Program} {wd : World} {Hq : Hp} (b : DictBare pr wd xs l h') : ObjOk pr wd Hq h' l (.ext (DictBare pr wd xs l)) := by
  obtain ⟨o, es, ep, e1, r⟩ := id b
  exact ⟨b, ⟨o, e1⟩, fun h1 h2 ⟨o, es, ep, q1, q2⟩ k => ⟨o, es, ep, k o q1, q2⟩⟩
end
/-! ### the rules -/
def tDNewN (pr : Program) (wd : World) : TE := fun _ H Q => ∀ p, H p = none → (p == sysModules) = false → Q (.ref p) (upd H p (.ext (DictBare pr wd [] p)))
def rIxN (pr : Program) (wd : World) (K : PySem.W.Frag) : R2 := fun x y H Q => ∃ (O : List Addr) (l : Addr) (kvs : List (D × D)) (kd v : D), x = .ref l ∧ NDict pr wd K O H l kvs ∧ Rp K (hid O H) y kd ∧ keyD kd = true ∧ lookD kvs kd = some v ∧ ∀ u, Rp K (hid O H) u v → Q u H
def tGetN (pr : Program) (wd : World) (K : PySem.W.Frag) (td ty tx : TE) : TE := fun σ H Q => td σ H fun x H1 => ∃ l, x = .ref l ∧ (∃ O kvs, NDict pr wd K O H1 l kvs) ∧ ty σ H1 fun y H2 => tx σ H2 fun z H3 => ∃ (O : List Addr) (kvs : List (D × D)) (kd : D), NDict pr wd K O H3 l kvs ∧ Rp K (hid O H3) y kd ∧ keyD kd = true ∧
  (∀ v u, lookD kvs kd = some v → Rp K (hid O H3) u v → Q u H3) ∧ (lookD kvs kd = none → Q z H3)
def rSetN (pr : Program) (wd : World) (K : PySem.W.Frag) : TSet := fun o i v H Q => ∃ (O : List Addr) (l : Addr) (kvs : List (D × D)) (kd vd : D), o = .ref l ∧ l ∈ O ∧ NDict pr wd K O H l kvs ∧ Rp K (hid O H) i kd ∧ keyD kd = true ∧ Rp K (hid O H) v vd ∧ kvs.length < sizeLine ∧
  ∀ φ, NDict pr wd K O (upd H l (.ext φ)) l (putD kvs kd vd) → Q (upd H l (.ext φ))
def rSortN (pr : Program) (wd : World) (K : PySem.W.Frag) : List V → Hp → VK → Prop := fun vs H Q => ∃ (O : List Addr) (l : Addr) (kvs : List (D × D)), vs = [.ref l] ∧ NDict pr wd K O H l kvs ∧ plainAll (kvs.map (·.1)) = true ∧ PySem.W.AllAlike ((kvs.map (·.1)).map dpy) ∧ PySem.W.Sortable ((kvs.map (·.1)).map dpy) ∧ kvs.length ≤ sizeLine ∧
  (∀ d ∈ kvs.map (·.1), (dpy d).depth ≤ 50) ∧ ∀ p ys, H p = none → RpAll K (hid O H) ys (sortD (kvs.map (·.1))) → Q (.ref p) (upd H p (.lst ys))
section
variable {X : Cx} (pr : Program) (wd : World) (K : PySem.W.Frag)
theorem sys_lt {X : Cx} {pins : List (Addr × Obj)} {σ : L2.St} {H : Hp} {s : Shared} (I : Inv X pins σ H s) : (s.heap.objs.size == sysModules) = false := by
  have := I.big
  simp only [beq_eq_false_iff_ne, ne_eq]
  intro e
  exact absurd this (by rw [e]; exact Nat.lt_irrefl _)
theorem pe_dnewN {pos : Pos} (hp : X.prog = pr := by rfl) (hw : X.w = wd := by rfl) : PE X (.Dict [] [] pos) (tDNewN pr wd) := by
  subst hp; subst hw
  refine ⟨fun pins s σ H Q I h => ?_⟩
  refine wpAny_Dict_empty ⟨.ref s.heap.objs.size, _, I.laid (a := s.heap.objs.size) (o := .ext (DictBare X.prog X.w [] s.heap.objs.size)) (t' := s.toks) (fun _ _ q => Heap.get?_push_of_some _ q) (Nat.le_refl _) (bare_ok ?_), rfl, h _ (I.hok.fresh (Nat.le_refl _)) (sys_lt I)⟩
  obtain ⟨o, es, ep, e1, e2, e3, e4, _, e5⟩ := Heap.DictOfH.new (knd := nestedKind X.prog X.w) s.heap
  exact ⟨o, es, ep, e1, e2, e3, e4, e5⟩
theorem x_ixN (hu : X.A.units + 64 < cLine) (hp : X.prog = pr := by rfl) (hw : X.w = wd := by rfl) (hK : X.K = K := by rfl) : IxR X (rIxN pr wd K) := by
  subst hp; subst hw; subst hK
  intro value slice pins s σ H x y v u Q I rx ry h hs
  obtain ⟨O, l, kvs, kd, vd, rfl, ⟨xs, n1, n2, n3⟩, rk, hk, hl, q⟩ := h
  cases rx
  obtain ⟨a, ea, eb, is⟩ := key_is I rk ry hk
  subst eb
  have dd := nd_of I n1 n3
  rcases ent_look (kd := kd) n3 with ⟨e1, _⟩ | ⟨v', a', u', w, e1, e2, e3, e4⟩
  · rw [e1] at hl; cases hl
  · rw [e1] at hl
    cases hl
    refine PyProof.Rows.tail_any dd.typeIs PySem.F.slot_dict_getitem.lookup ?_ hs
    exact wpAny_getItem_heap (by show X.A.in1.units + 8 < cLine; have : X.A.in1.units = X.A.units + 1 := rfl; omega) is dd e2 ⟨w, H, I.tok _, e3, q w e4⟩
theorem x_setN (hu : X.A.units + 64 < cLine) (hp : X.prog = pr := by rfl) (hw : X.w = wd := by rfl) (hK : X.K = K := by rfl) : PSet X (rSetN pr wd K) := by
  subst hp; subst hw; subst hK
  intro pins s σ H o i v ov iv u Q I ro ri rv h
  obtain ⟨O, l, kvs, kd, vd, rfl, lO, ⟨xs, n1, n2, n3⟩, rk, hk, rvd, hz, q⟩ := h
  cases ro
  obtain ⟨a, ea, eb, is⟩ := key_is I rk ri hk
  subst eb
  have dd := nd_of I n1 n3
  refine wpAny_setItem_heap (hsz := by rw [← ent_len n3]; exact Nat.le_of_lt hz) (by show X.A.in1.units + 8 < cLine; have : X.A.in1.units = X.A.units + 1 := rfl; omega) is dd fun h' dd' hs => ?_
  obtain ⟨o, es, ep, e1, e2, e3, e4, _, e5⟩ := dd'
  have bb : DictBare X.prog X.w (storedH xs (nk kd) a u) l h' := ⟨o, es, ep, e1, e2, e3, e4, e5⟩
  refine ⟨_, d_write I (by rw [n1]; exact True.intro) hs ⟨o, e1⟩ (bare_ok bb), q _ ?_⟩
  subst ea
  refine ⟨_, upd_same, n2, ?_⟩
  rw [hid_upd_in lO]
  exact ent_put hk rk rv rvd n3
theorem pe_getN {o e f : Expr} {apos cpos : Pos} {td ty tx : TE} (hu : X.A.units + 64 < cLine) (ho : PE X o td) (he : PE X e ty) (hf : PE X f tx) (m : M2 X o "get" apos e f cpos) (hp : X.prog = pr := by rfl) (hw : X.w = wd := by rfl) (hK : X.K = K := by rfl) :
    PE X (.Call (.Attribute o "get" apos) [e, f] [] cpos) (tGetN pr wd K td ty tx) := by
  subst hp; subst hw; subst hK
  refine ⟨fun pins s σ H Q I h => ?_⟩
  refine wpAny_Call_method m.base m.few m.line PySem.F.plainAttrs_dict PySem.F.slot_dict_get PySem.F.type_dict_get (thn (ho.run pins s σ H _ I h) fun u s1 ⟨x, H1, I1, rx, l, ex, ⟨O, kvs, xs, n1, n2, n3⟩, q1⟩ => ?_)
  subst ex
  obtain rfl : u = Value.ref l := rx
  have dd := nd_of I1 n1 n3
  refine ⟨dd.typeIs, fun b eb => ?_, ?_⟩
  · cases eb
    obtain ⟨o, es, ep, e1, e2, _⟩ := dd
    exact ⟨o, e1, e2.2.1⟩
  rw [m.trees]
  refine Calls.callWith_builtin rfl (Calls.evalArgs_plain (Calls.spliced_cons (thn (he.run pins s1 σ H1 _ I1 q1) fun iv s2 ⟨y, H2, I2, ry, q2⟩ =>
    Calls.spliced_cons (thn (hf.run pins s2 σ H2 _ I2 q2) fun fv s3 ⟨z, H3, I3, rz, O3, kvs3, kd, ⟨xs3, m1, m2, m3⟩, rk, hk, qs, qn⟩ => Calls.spliced_nil ?_))))
  obtain ⟨a, ea, eb, is⟩ := key_is I3 rk ry hk
  subst eb
  have dd3 := nd_of I3 m1 m3
  refine call_meetsIn PySem.F.slot_dict_get dd3.typeIs PySem.F.entry_dict_get (PySem.F.args_dict_get_3 _ _ _) (meetsH_dict_get_default (nestedKind X.prog X.w) l a m2 fv) ⟨by show X.A.in1.units + 8 < cLine; have : X.A.in1.units = X.A.units + 1 := rfl; omega, nk kd, xs3, is, dd3, ?_⟩
  rcases ent_look (kd := kd) m3 with ⟨e1, e2⟩ | ⟨v', a', u', w, e1, e2, e3, e4⟩
  · rw [e2]
    exact ⟨z, H3, I3.tok _, rz, qn e1⟩
  · rw [e2]
    exact ⟨w, H3, I3.tok _, e3, qs v' w e1 e4⟩
end
end L3
/-! L3j: sorted(d); the rules of own dicts over data; count. -/
namespace L3
open PySem L2 PySem.W PyProof.Rows PySem.Calls PyProof.V
section
variable {prog : Program} {w : World} {A : Around} {E : Value → Shared → Prop} {s : Shared}
theorem sorted_dictH {β : Type} {R : Value → β → Prop} {enc : β → PyData} {bs : List β} {d : Addr} {es : Array DictEntry} {ep : Nat} {Q : Value → Shared → Prop} (hh : A.handled = none) (lo : (d == sysModules) = false) (hD : s.heap.DictRaw d es ep)
    (e : EachIs R (es.toList.map (·.key)) bs) (er : EachIs (fun v b => ∃ as, Reads s.heap v (enc b) as) (es.toList.map (·.key)) bs) (hal : AllAlike (bs.map enc)) (hk : Sortable (bs.map enc)) (hL : bs.length ≤ sizeLine)
    (hu : ∀ b, b ∈ bs → A.units + 2 + (enc b).depth < cLine)
    (h : ∀ (h1 h2 : Heap) (tk : Nat) (out : List Value) (c : Nat), (∀ b o, s.heap.get? b = some o → h1.get? b = some o) → (∀ b o, h1.get? b = some o → h2.get? b = some o) → h2.get? h1.objs.size = some { cls := .type "list", data := .seq out.toArray c } → out.length = bs.length → EachIs R out (bs.mergeSort (dataLe false enc)) → Q (.ref h1.objs.size) { s with heap := h2, toks := tk }) :
    wpAny (model prog w) A (call (.builtin "sorted") [.ref d]) Q E s := by
  have hn : es.size ≤ sizeLine := by
    have q := e.length
    rw [List.length_map, Array.length_toList] at q
    omega
  refine call_function_entry kind_sorted plain_sorted entry_sorted (args_sorted1 _) ?_
  unfold Builtin.«sorted»
  refine wpAny_bind (m := checkCount "sorted" 1 1 _) (wpAny_pure ?_)
  refine wpAny_bind (kdu_collect (A := A.in1) (KdlSrc.rawDict lo) hh hD hn fun h' tk acc hkp hacc => ?_)
  have hl : acc.toList = es.toList.map (·.key) := by
    apply List.ext_getElem?
    intro j
    by_cases hj : j < acc.size
    · obtain ⟨hi, hv⟩ := hacc.2 j acc[j] (by simp [hj])
      rw [Array.getElem?_toList, Array.getElem?_eq_getElem hj, List.getElem?_map, Array.getElem?_toList, Array.getElem?_eq_getElem hi, hv]; rfl
    · have hs : acc.size = es.size := hacc.1
      rw [Array.getElem?_toList, Array.getElem?_eq_none (by omega), List.getElem?_map, Array.getElem?_toList, Array.getElem?_eq_none (by omega)]; rfl
  have hz : acc.toList.length ≤ sizeLine := by rw [Array.length_toList, hacc.1]; exact hn
  refine wpAny_bind (wpAny_newList ?_ hz)
  rw [hl] at hz ⊢
  generalize hvs : es.toList.map (·.key) = vs at e er hz ⊢
  have ho : (h'.push { cls := .type "list", data := .seq vs.toArray }).get? h'.objs.size = some (seqObj "list" vs.toArray 0) := Heap.get?_push_size _ rfl
  have old : ∀ b o, s.heap.get? b = some o → (sortingHeap (h'.push { cls := .type "list", data := .seq vs.toArray }) h'.objs.size vs).get? b = some o := fun b o q =>
    sortingHeap_old (Nat.ne_of_lt (Heap.lt_size (hkp b o q))) (Heap.get?_push_of_some _ (hkp b o q))
  have er' : EachIs (fun v b => ∃ as, Reads (sortingHeap (h'.push { cls := .type "list", data := .seq vs.toArray }) h'.objs.size vs) v (enc b) as) vs bs := er.mono fun _ _ ⟨as, r⟩ => ⟨as, PyProof.Rows.Reads.keeps old r⟩
  refine wpAny_bind (wpAny_holding ?_)
  refine wpAny_call_entry slot_list_sort ⟨_, ho, rfl⟩ entry_list_sort (list_sort_vals (κ := dataKind (sortingHeap (h'.push { cls := .type "list", data := .seq vs.toArray }) h'.objs.size vs) (bs.map enc)) ho (SortsAt.data (s := { s with heap := sortingHeap (h'.push { cls := .type "list", data := .seq vs.toArray }) h'.objs.size vs, toks := tk }) (each_map (R := fun v d => ∃ as, Reads (sortingHeap (h'.push { cls := .type "list", data := .seq vs.toArray }) h'.objs.size vs) v d as) enc er') hal hk (bound_map hu)) (by rw [e.length]; exact hL) ⟨.none, rfl, ?_⟩) (args_list_sort _)
  obtain ⟨c, hc⟩ := sortedHeap_at (out := (sortVals (dataKind (sortingHeap (h'.push { cls := .type "list", data := .seq vs.toArray }) h'.objs.size vs) (bs.map enc)) false vs vs).toArray) ho
  refine wpAny_pure ⟨_, rfl, h h' _ tk _ c hkp ?_ hc (by rw [sortVals_length false rfl]; exact e.length) (sortVals_data false e er' hal)⟩
  intro b o q
  rw [sortedHeap_old (Nat.ne_of_lt (Heap.lt_size q)) (Nat.lt_of_lt_of_le (Heap.lt_size q) (by rw [Heap.size_push]; exact Nat.le_succ _))]
  exact Heap.get?_push_of_some _ q
end
section
variable {X : Cx} (pr : Program) (wd : World) (K : PySem.W.Frag)
theorem ent_keys {K : PySem.W.Frag} {H : Hp} : ∀ {kvs : List (D × D)} {xs : List (NestedKey × Addr × Value)}, Paired (EntD K H) kvs xs → EachIs (fun (u : Value) (d : D) => ∃ v, RelV v u ∧ Rp K H v d) (xs.map fun x => Value.ref x.2.1) (kvs.map (·.1))
  | _, _, .nil => .nil
  | _, _, .cons (a := kv) (b := x) h t => .cons ⟨V.ref x.2.1, rfl, h.2.2.1⟩ (ent_keys t)
theorem x_sortN (hu : X.A.units + 64 < cLine) (hcalm : X.calm = true := by rfl) (hp : X.prog = pr := by rfl) (hw : X.w = wd := by rfl) (hK : X.K = K := by rfl) : CallR X (.builtin "sorted") (rSortN pr wd K) := by
  subst hp; subst hw; subst hK
  intro pins s σ H vs us Q I r h
  obtain ⟨O, l, kvs, rfl, ⟨xs, n1, n2, n3⟩, hpl, hal, hk, hL, hdep, q⟩ := h
  rw [Vals.ref1 r]
  obtain ⟨⟨o, es, ep, e1, e2, e3, e4, e5⟩, _⟩ := I.hok l _ n1
  have el := ent_keys n3
  have ek : es.toList.map (·.key) = xs.map fun x => Value.ref x.2.1 := by rw [e4, List.map_map]; rfl
  have er : EachIs (fun (u : Value) (d : D) => ∃ as, Reads s.heap u (dpy d) as) (xs.map fun x => Value.ref x.2.1) (kvs.map (·.1)) := by
    refine (each_mem el).mono ?_
    rintro u d ⟨⟨v, r1, r2⟩, hd⟩
    exact Dp.reads I (dpy d) v u (Dp.mono same_hid (r2.dp (plainAll_mem hpl hd))) r1
  refine sorted_dictH (s := s) (I.ok.hd hcalm) n2 ⟨o, e1, e2, e3⟩ (by rw [ek]; exact el) (by rw [ek]; exact er) hal hk (by rw [List.length_map]; exact hL) (fun d hd => by have := hdep d hd; omega) fun h1 h2 tk out c k1 k2 hc ho eo => ?_
  obtain ⟨ys, g1, g2⟩ := rp_each eo
  have hlen : ys.length ≤ sizeLine := by rw [g1.length, ho, List.length_map]; exact hL
  have I1 : Inv X pins σ H { s with heap := h1 } := I.kept (t' := s.toks) k1
  exact ⟨.ref _, upd H h1.objs.size (.lst ys), I1.laid (t' := tk) k2 (Nat.le_refl _) ⟨hlen, out, c, g1, hc⟩, rfl, q _ ys (I1.hok.fresh (Nat.le_refl _)) g2⟩
/-- list.count of data -/
def rCountD (K : PySem.W.Frag) : V → List V → Hp → VK → Prop := fun x vs H Q => ∃ (O : List Addr) (y : V) (ds : List D) (d : D), vs = [y] ∧ Rp K (hid O H) x (.lst ds) ∧ Rp K (hid O H) y d ∧ fit d = true ∧ fit (.lst ds) = true ∧ Q (.int ((ds.countP fun z => eqD z d : Nat) : Int)) H
theorem countP_map {α β : Type} (f : α → β) (p : β → Bool) (l : List α) : (l.map f).countP p = l.countP (p ∘ f) := by rw [List.countP_map]
theorem x_count (hu : X.A.units + 65 < cLine) (hK : X.K = K := by rfl) : MtR X "list.count" (rCountD K) := by
  subst hK
  intro pins s σ H x vs v us Q I rx rv h
  obtain ⟨O, y, ds, d, rfl, rl, ry, hd, hds, q⟩ := h
  cases rl with
  | @lst a xs _ hs ha =>
    cases rx
    cases rv with
    | cons r1 r2 =>
      cases r2
      obtain ⟨its, n, rit, e, hz⟩ := inv_rdL I (same_rd same_hid hs)
      obtain ⟨bs, rd⟩ := Dp.reads I (dpy d) y _ (Dp.mono same_hid (ry.dp (fit_p hd))) r1
      obtain ⟨as, ra⟩ := Dp.readsAll I (dpyAll ds) xs its (DpAll.mono same_hid (ha.dp (fit_p hds))) rit
      have hxs : PyData.canLayAll0 (dpyAll ds) = true := SeqAt.canLay_of_shaped (fit_s hds)
      have hroom : X.A.units + 1 + min (PyData.depthAll (dpyAll ds)) (dpy d).depth < cLine := room_in_shaped (fit_s hd) hu
      have hmap : its.map (SeqAt.readOf s.heap) = dpyAll ds := SeqAt.readsAll_map (dpyAll ds) its as hxs ra
      refine call_meets PySem.F.slot_list_count ⟨_, e, rfl⟩ PySem.F.entry_list_count (PySem.F.args_list_count_2 _ _) (SeqAt.list_countAt a its.toArray n none #[] _ (fun u => PyData.eqv (SeqAt.readOf s.heap u) (dpy d))) ⟨e, SeqAt.items_eqAt (vs := its.toArray) (show ReadsAll s.heap its.toArray.toList (dpyAll ds) as from ra) rd hxs (SeqAt.canLay_of_shaped (fit_s hd)) hroom, ?_⟩
      refine ⟨.int _, H, I.tok _, ⟨_, rfl⟩, ?_⟩
      have ec : its.toArray.toList.countP (fun u => PyData.eqv (SeqAt.readOf s.heap u) (dpy d)) = ds.countP fun z => eqD z d := by
        rw [List.toList_toArray]
        have h1 : its.countP (fun u => PyData.eqv (SeqAt.readOf s.heap u) (dpy d)) = (its.map (SeqAt.readOf s.heap)).countP fun z => PyData.eqv z (dpy d) := by rw [List.countP_map]; rfl
        rw [h1, hmap, dpyAll_map, List.countP_map]; rfl
      rw [ec]
      exact q
end
end L3
/-! L3k: own dicts over data. -/
namespace L3
open PySem L2
section
variable {X : Cx} (K : PySem.W.Frag)
theorem x_bm {o e : Expr} {es : List Expr} {to : TE} {t : TA} {name : Str} {apos cpos : Pos} {T id : String} {r : V → List V → Hp → VK → Prop} (h : PE X (.Call (.Attribute o name apos) (e :: es) [] cpos) (tBM X.K T r to t)) (hK : X.K = K := by rfl) : PE X (.Call (.Attribute o name apos) (e :: es) [] cpos) (tBM K T r to t) := hK ▸ h
end
section
variable {c : Ctx} {ρ : List SD} {n : Nat} {ta tb te : TE} {t u : TT} {as : TA} {Φ : Nat → D → Prop} {Ψ : Out} {ts us : TS}
theorem we_count {te2 : TE} (h : WE c te ρ n fun n1 d => ∃ ds, d = .lst ds ∧ WE c te2 ρ n1 fun n2 e => fit e = true ∧ fit (.lst ds) = true ∧ Φ n2 (.int ((ds.countP fun z => eqD z e : Nat) : Int))) : WE c (tBM c.K "list" (rCountD c.K) te (tCons te2 tNil)) ρ n Φ := fun P L σ H Q E q => by
  refine h P L σ H _ E fun x d n1 H1 s1 j1 r1 ⟨ds, e, h1⟩ => ?_
  subst e
  have E1 := E.step s1 j1
  cases r1 with
  | @lst a xs _ hs ha =>
    refine ⟨.inl ⟨rfl, xs, .inl (same_rd same_hid hs)⟩, ?_⟩
    refine h1 P L σ H1 _ E1 fun y d2 n2 H2 s2 j2 r2 ⟨f1, f2, k⟩ => ?_
    exact ⟨L ++ c.O, y, ds, d2, rfl, (Rp.lst hs ha).mono (E1.sameLO s2), r2, f1, f2, q _ _ n2 H2 (s1.trans s2) j2 (.int _) k⟩
theorem Env.dic_get {P : Hp} {L : List Addr} {n : Nat} {H : Hp} {σ : List (Option V)} {i : Nat} {kvs : List (D × D)} (E : Env c P L n H σ ρ) (h : ρ[i]? = some (.dic kvs)) : ∃ l, σ[i]? = some (some (.ref l)) ∧ l ∈ L ∧ NDict c.pr c.wd c.K (L ++ c.O) H l kvs := by
  obtain ⟨Ls, sl, sb⟩ := E.slots
  obtain ⟨l, h1, h2, h3⟩ := sl.getD h
  exact ⟨l, h1, sb.subset h2, h3⟩
theorem we_dix {i : Nat} {kvs : List (D × D)} (h0 : ρ[i]? = some (.dic kvs)) (h : WE c te ρ n fun n1 kd => keyD kd = true ∧ ∃ v, lookD kvs kd = some v ∧ Φ n1 v) : WE c (tOp (rIxN c.pr c.wd c.K) (tVar i) te) ρ n Φ := fun P L σ H Q E q => by
  obtain ⟨l, h1, hL, h2⟩ := E.dic_get h0
  refine ⟨.ref l, h1, ?_⟩
  refine h P L σ H _ E fun y kd n1 H1 s1 j1 r1 ⟨hk, v, hv, k⟩ => ?_
  have E1 := E.step s1 j1
  obtain ⟨l', g1, _, g2⟩ := E1.dic_get h0
  rw [h1] at g1
  cases g1
  exact ⟨L ++ c.O, l, kvs, kd, v, rfl, g2, r1, hk, hv, fun u r => q u v n1 H1 s1 j1 r k⟩
theorem we_dget {i : Nat} {kvs : List (D × D)} {tx : TE} (h0 : ρ[i]? = some (.dic kvs)) (h : WE c te ρ n fun n1 kd => WE c tx ρ n1 fun n2 xd => keyD kd = true ∧ Φ n2 ((lookD kvs kd).getD xd)) : WE c (tGetN c.pr c.wd c.K (tVar i) te tx) ρ n Φ := fun P L σ H Q E q => by
  obtain ⟨l, h1, hL, h2⟩ := E.dic_get h0
  refine ⟨.ref l, h1, l, rfl, ⟨_, _, h2⟩, ?_⟩
  refine h P L σ H _ E fun y kd n1 H1 s1 j1 r1 h3 => ?_
  have E1 := E.step s1 j1
  refine h3 P L σ H1 _ E1 fun z xd n2 H2 s2 j2 r2 ⟨hk, k⟩ => ?_
  have E2 := E1.step s2 j2
  obtain ⟨l', g1, _, g2⟩ := E2.dic_get h0
  rw [h1] at g1
  cases g1
  refine ⟨L ++ c.O, kvs, kd, g2, r1.mono (E1.sameLO s2), hk, fun v u hv ru => ?_, fun hn => ?_⟩
  · rw [hv] at k
    exact q u v n2 H2 (s1.trans s2) j2 ru k
  · rw [hn] at k
    exact q z xd n2 H2 (s1.trans s2) j2 r2 k
theorem Slots.dic_at {pr : Program} {wd : World} {K : PySem.W.Frag} {O : List Addr} {H : Hp} {kvs lvs : List (D × D)} : ∀ {σ : List (Option V)} {ρ : List SD} {L : List Addr} {i : Nat}, Slots pr wd K O H σ ρ L → L.Nodup → ρ[i]? = some (.dic kvs) → ∃ l, σ[i]? = some (some (.ref l)) ∧ l ∈ L ∧ NDict pr wd K O H l kvs ∧
    ∀ (o : HO), NDict pr wd K O (upd H l o) l lvs → hid O (upd H l o) = hid O H → Slots pr wd K O (upd H l o) σ (ρ.set i (.dic lvs)) L
  | _, _, _, _, .nil, _, e => by simp at e
  | _, _, _, 0, .un _, _, e => by simp at e
  | _, _, _, i + 1, .un s, nd, e => by
    obtain ⟨l, h1, h2, h3, h5⟩ := Slots.dic_at (i := i) s nd (by simpa using e)
    exact ⟨l, by simpa using h1, h2, h3, fun ys a b => .un (h5 ys a b)⟩
  | _, _, _, 0, .val _ _, _, e => by simp at e
  | _, _, _, i + 1, .val r s, nd, e => by
    obtain ⟨l, h1, h2, h3, h5⟩ := Slots.dic_at (i := i) s nd (by simpa using e)
    exact ⟨l, by simpa using h1, h2, h3, fun ys a b => .val (by rw [b]; exact r) (h5 ys a b)⟩
  | _, _, _, 0, .own _ _ _, _, e => by simp at e
  | _, _, _, i + 1, .own h r s, nd, e => by
    obtain ⟨l, h1, h2, h3, h5⟩ := Slots.dic_at (i := i) s (List.nodup_cons.mp nd).2 (by simpa using e)
    exact ⟨l, by simpa using h1, List.mem_cons_of_mem _ h2, h3, fun ys a b => .own ((upd_ne fun e => (List.nodup_cons.mp nd).1 (by rw [e]; exact h2)).trans h) (by rw [b]; exact r) (h5 ys a b)⟩
  | _, _, _, 0, .dic h s, nd, e => by
    simp at e
    subst e
    exact ⟨_, rfl, List.mem_cons_self, h, fun ys a b => .dic a (s.move (fun l hl => upd_ne fun e => (List.nodup_cons.mp nd).1 (by rw [← e]; exact hl)) (by rw [b]; exact Same.refl _))⟩
  | _, _, _, 0, .dk h s, nd, e => by simp at e
  | _, _, _, 0, .tw h s, nd, e => by simp at e
  | _, _, _, i + 1, .dic h s, nd, e => by
    obtain ⟨l, h1, h2, h3, h5⟩ := Slots.dic_at (i := i) s (List.nodup_cons.mp nd).2 (by simpa using e)
    exact ⟨l, by simpa using h1, List.mem_cons_of_mem _ h2, h3, fun ys a b => .dic (h.move (upd_ne fun e => (List.nodup_cons.mp nd).1 (by rw [e]; exact h2)) (by rw [b]; exact Same.refl _)) (h5 ys a b)⟩
  | _, _, _, i + 1, .dk h s, nd, e => by
    obtain ⟨l, h1, h2, h3, h5⟩ := Slots.dic_at (i := i) s (List.nodup_cons.mp nd).2 (by simpa using e)
    exact ⟨l, by simpa using h1, List.mem_cons_of_mem _ h2, h3, fun ys a b => .dk (h.move (upd_ne fun e => (List.nodup_cons.mp nd).1 (by rw [e]; exact h2)) (by rw [b]; exact Same.refl _)) (h5 ys a b)⟩
  | _, _, _, i + 1, .tw h s, nd, e => by
    obtain ⟨l, h1, h2, h3, h5⟩ := Slots.dic_at (i := i) s (List.nodup_cons.mp nd).2 (by simpa using e)
    exact ⟨l, by simpa using h1, List.mem_cons_of_mem _ h2, h3, fun ys a b => .tw (h.move (upd_ne fun e => (List.nodup_cons.mp nd).1 (by rw [e]; exact h2)) (by rw [b]; exact Same.refl _)) (h5 ys a b)⟩
theorem Env.dic_at {P : Hp} {L : List Addr} {n : Nat} {H : Hp} {σ : List (Option V)} {i : Nat} {kvs : List (D × D)} (E : Env c P L n H σ ρ) (h : ρ[i]? = some (.dic kvs)) : ∃ l, σ[i]? = some (some (.ref l)) ∧ l ∈ L ++ c.O ∧ NDict c.pr c.wd c.K (L ++ c.O) H l kvs ∧
    ∀ (o : HO) (lvs : List (D × D)), NDict c.pr c.wd c.K (L ++ c.O) (upd H l o) l lvs → Env c P L n (upd H l o) σ (ρ.set i (.dic lvs)) := by
  obtain ⟨Ls, sl, sb⟩ := E.slots
  have nd := sb.nodup E.nd
  obtain ⟨l, h1, h2, h3, _⟩ := sl.dic_at (lvs := kvs) nd h
  have lL := sb.subset h2
  have hm : l ∈ L ++ c.O := List.mem_append_left _ lL
  have hO : l ∉ c.O := (E.fresh l lL).2
  refine ⟨l, h1, hm, h3, fun o lvs hy => ?_⟩
  have bs : Same (hid c.B c.H0) (hid c.B (upd H l o)) := same_upd_old (E.fresh l lL).1 E.base
  obtain ⟨l', g1, g2, g3, g5⟩ := sl.dic_at (lvs := lvs) nd h
  rw [h1] at g1
  cases g1
  exact { nd := E.nd, fresh := E.fresh, slots := ⟨Ls, g5 o hy (hid_upd_in hm), sb⟩,
          lst := fun a ha => by
            by_cases e : a = l
            · exact ⟨_, by rw [e, upd_same]⟩
            · rw [upd_ne e]; exact E.lst a ha,
          bag := fun b q hb => (E.bag b q hb).move (fun o h => by rw [upd_ne fun e : b = l => hO (e ▸ (E.bO b q hb).1)]; exact h) fun o h => by rw [upd_ne fun e : q = l => hO (e ▸ (E.bO b q hb).2.1)]; exact h,
          base := bs, pers := by rw [hid_upd_in hm]; exact E.pers, bO := E.bO,
          al := fun o ho => by rw [upd_ne fun e : o = l => hO (e ▸ ho)]; exact E.al o ho }
/-- d[k] = e -/
theorem ws_dput {i : Nat} {kvs : List (D × D)} {tk : TE} (h0 : ρ[i]? = some (.dic kvs)) (hz : kvs.length < 16777216) (h : WE c te ρ n fun n1 vd => WE c tk ρ n1 fun n2 kd => keyD kd = true ∧ Ψ.nx n2 (ρ.set i (.dic (putD kvs kd vd)))) : WS c (tAsg te (gSub (tVar i) tk (rSetN c.pr c.wd c.K))) ρ n Ψ := fun P L σ H Dn E A => by
  refine h P L σ H _ E fun y vd n1 H1 s1 j1 r1 h1 => ?_
  have E1 := E.step s1 j1
  obtain ⟨l, g1, gL, g2, _⟩ := E1.dic_at h0
  refine ⟨.ref l, g1, ?_⟩
  refine h1 P L σ H1 _ E1 fun z kd n2 H2 s2 j2 r2 ⟨hk, k⟩ => ?_
  have E2 := E1.step s2 j2
  obtain ⟨l', g1', gL', g2', up⟩ := E2.dic_at h0
  rw [g1] at g1'
  cases g1'
  refine ⟨L ++ c.O, l, kvs, kd, vd, rfl, gL, g2', r2, hk, r1.mono (E1.sameLO s2), by rw [sizeLine_eq]; exact hz, fun φ hN => ?_⟩
  exact A.nx L n2 _ σ _ (up _ _ hN) k
/-- {} -/
theorem ws_dnew {i : Nat} (hi : i < ρ.length) (k : Ψ.nx n (ρ.set i (.dic []))) : WS c (tAsg (tDNewN c.pr c.wd) (gName i)) ρ n Ψ := fun P L σ H Dn E A => by
  intro p hp hs
  have w := E.new hp
  have nin : p ∉ L ++ c.O := E.noO p hp
  have T := E.newT (o := .ext (DictBare c.pr c.wd [] p)) hp
  have E1 := E.step T.1 T.2.1
  have e0 : ∀ O, hid (p :: O) (upd H p (.ext (DictBare c.pr c.wd [] p))) = hid O H := fun O => hid_new_in hp
  obtain ⟨Ls, sl0, sb⟩ := E.slots
  have sl : Slots c.pr c.wd c.K (p :: (L ++ c.O)) (upd H p (.ext (DictBare c.pr c.wd [] p))) σ ρ Ls := sl0.move (fun l hl => upd_ne fun e => w.2.2 (e ▸ sb.subset hl)) (by rw [e0]; exact Same.refl _)
  have nd : NDict c.pr c.wd c.K (p :: (L ++ c.O)) (upd H p (.ext (DictBare c.pr c.wd [] p))) p [] := ⟨[], upd_same, hs, .nil⟩
  obtain ⟨L1, L2, L3, sl2, eL, sub⟩ := Slots.setN nd (fun q => w.2.2 (sb.subset q)) i hi sl
  have mv : ∃ Lp : List Addr, (L1 ++ p :: L2).Sublist Lp ∧ Lp.Perm (p :: L) := by
    rw [eL] at sb
    have h5 : (L1 ++ L2).Sublist L := (List.Sublist.append_left sub L1).trans sb
    exact ins_sub h5
  obtain ⟨Lp, sLp, pLp⟩ := mv
  have mem : ∀ a, a ∈ Lp ++ c.O ↔ a ∈ p :: (L ++ c.O) := fun a => by
    rw [show p :: (L ++ c.O) = (p :: L) ++ c.O from rfl, List.mem_append, List.mem_append, pLp.mem_iff]
  refine A.nx Lp n _ _ _ ?_ k
  exact { nd := pLp.nodup_iff.mpr (List.nodup_cons.mpr ⟨w.2.2, E.nd⟩),
          fresh := fun l hl => by
            rcases List.mem_cons.mp (pLp.mem_iff.mp hl) with q | q
            · subst q; exact ⟨w.1, w.2.1⟩
            · exact E.fresh l q,
          slots := ⟨_, sl2.move (fun _ _ => rfl) (same_hid_sub fun a ha => (mem a).mp ha), sLp⟩,
          lst := fun l hl => by
            rcases List.mem_cons.mp (pLp.mem_iff.mp hl) with q | q
            · subst q; exact ⟨_, upd_same⟩
            · exact E1.lst l q,
          bag := T.2.1,
          base := E1.base,
          pers := (E.pers.trans (by rw [e0]; exact Same.refl _)).trans (same_hid_sub fun a ha => (mem a).mp ha),
          bO := E.bO, al := E1.al }
/-- sorted(d) -/
theorem wf_dsort {i : Nat} {kvs : List (D × D)} {Φ : Nat → List D → Prop} (h0 : ρ[i]? = some (.dic kvs)) (hp : plainAll (kvs.map (·.1)) = true) (hal : PySem.W.AllAlike ((kvs.map (·.1)).map dpy)) (hk : PySem.W.Sortable ((kvs.map (·.1)).map dpy)) (hL : kvs.length ≤ sizeLine)
    (hd : ∀ d ∈ kvs.map (·.1), (dpy d).depth ≤ 50) (k : Φ n (sortD (kvs.map (·.1)))) : WF c (tCB (rSortN c.pr c.wd c.K) (tCons (tVar i) tNil)) ρ n Φ := fun P L σ H Q E q => by
  obtain ⟨l, h1, hL', h2⟩ := E.dic_get h0
  refine ⟨.ref l, h1, L ++ c.O, l, kvs, rfl, h2, hp, hal, hk, hL, hd, fun p ys hpn hy => ?_⟩
  have T := E.newT (o := .lst ys) hpn
  exact q p ys _ n _ T.1 hpn upd_same (by rw [hid_new_in hpn]; exact hy) T.2.1 k
end
end L3
/-! L3l: defs with defaults, keyword calls, defs as callers see them, small rules. -/
namespace L3
open PySem L2
section
variable {P : Program} {w : World} {K : PySem.W.Frag} {mg : Str → Option Value} {base : Heap}
/-- a def with defaults by its body, over data -/
theorem fn_DD {x qual : Str} {st : Stmt} {f : Addr} {fd : FuncData} {N ps : List Str} {k : Nat} {S : Spec} {dvs : List V} (F : FunD K x qual (defArgs st) (defBody st) (defScope st) dvs [] f fd) (sc : FnScope N ps (defScope st))
    (len : ∀ bag n ds Φ, S bag n ds Φ → ds.length = ps.length)
    (body : ∀ (cdv : Value) (A : Around) (outer : List PySem.Env) (s : Shared) (H : Hp) (E : XK) (O : List Addr) (bag : Option (Addr × Addr)) (n : Nat) (ds : List D) (Φ : Nat → D → Prop), Room k (A.deeper (PyProof.Rows.envOfC qual (defScope st) s.heap.objs.size f cdv)) → S bag n ds Φ →
      ∃ t, PSs (cxOf CX0 P w K mg base N qual (defScope st) f cdv A outer s H E).nox (defBody st) t ∧ WS ⟨P, w, K, O, bag, H⟩ t (rho N ds) n { nx := fun n' _ => Φ n' .non, rt := Φ }) :
    FnOk P w K mg base CX0 (k + 1) f fd ps (spD K S) := by
  refine F.ok sc (fun vs H Q E h => ?_) (fun cdv A outer s H vs Q E hr h => ?_)
  · obtain ⟨O, bag, n, ds, Φ, _, _, r, hS, _⟩ := h
    rw [r.length]; exact len bag n ds Φ hS
  · obtain ⟨O, bag, n, ds, Φ, hb, hO, r, hS, q⟩ := h
    obtain ⟨t, ht, W⟩ := body cdv A outer s H E O bag n ds Φ hr hS
    refine ⟨t, ht.nox, W (fun _ => none) [] _ H _ ?_ ?_⟩
    · have e : L2.start N vs = vs.map some ++ List.replicate (N.length - ds.length) none := by unfold L2.start; rw [r.length]
      exact { nd := List.nodup_nil, fresh := (fun l hl => nomatch hl), slots := ⟨[], by rw [e]; exact slots_start r, List.Sublist.refl _⟩, lst := (fun l hl => nomatch hl), bag := fun b q e => (hb b q e).1, base := Same.refl _,
              pers := (fun _ _ e => nomatch e), bO := fun b q e => (hb b q e).2, al := hO }
    · exact { nx := fun L n' H' σ ρ E k => q .non .non n' H' E.base (fun b q e => E.bag b q e) .non k,
              rt := fun v d n' H' s j r k => q v d n' H' s j r k, bk := fun _ _ _ _ _ _ k => k.elim, ct := fun _ _ _ _ _ _ k => k.elim }
end
section
variable {c : Ctx} {ρ : List SD} {n : Nat} {as tk : TA} {Φ : Nat → D → Prop}
theorem we_ty {T : String} (k : Φ n (.ty T)) : WE c (tC (.ty T)) ρ n Φ := fun P L σ H Q E q => q _ _ n H (Same.refl _) E.bag (.ty T) k
theorem we_callK {S : Spec} {gV : List V → List V → List V} {XE : XK} (h : WA c as ρ n fun n1 ds => WA c tk ρ n1 fun n2 es => ∃ fs, (∀ H vs zs, RpAll c.K H vs ds → RpAll c.K H zs es → RpAll c.K H (gV vs zs) fs) ∧ S c.bag n2 fs Φ) : WE c (tCallK (spD c.K S) gV XE as tk) ρ n Φ := fun P L σ H Q E q => by
  refine h P L σ H _ E fun vs ds n1 H1 s1 j1 r1 h1 => ?_
  have E1 := E.step s1 j1
  refine h1 P L σ H1 _ E1 fun zs es n2 H2 s2 j2 r2 ⟨fs, g, k⟩ => ?_
  have E2 := E1.step s2 j2
  refine ⟨L ++ c.O, c.bag, n2, fs, Φ, fun b q hb => ⟨j2 b q hb, List.mem_append_right _ (E.bO b q hb).1, List.mem_append_right _ (E.bO b q hb).2.1, (E.bO b q hb).2.2⟩, E2.alLO, g _ _ _ (E1.ups (n' := n1) (H2 := H) s2 r1) r2, k, fun v d n3 H3 s3 j3 r3 k3 => ?_⟩
  exact q v d n3 H3 ((s1.trans s2).trans s3) j3 r3 k3
/-- a def as its callers see it -/
structure Dn (P : Program) (w : World) (K : PySem.W.Frag) (mg : Str → Option Value) (base : Heap) (x : Str) (k : Nat) (ps : List Str) (dv : List V) (dw : List Value) (S : L3.Spec) where
  f : Addr
  fd : FuncData
  G : FnOk P w K mg base CX0 k f fd ps (spD K S)
  m : mg x = some (.ref f)
  k : PySem.W.keepIn K (.ref f) = true
  b : Binds K fd ps dw
  v : Vals dv dw
theorem cut_to {xs : List D} {i : Nat} (h : i ≤ xs.length) : cutD xs none (some (i : Int)) = xs.take i := by
  unfold cutD
  have e : HT.sIx xs.length xs.length (some (i : Int)) = i := by rw [HT.sIx_nat]; omega
  rw [e]
  have e0 : HT.sIx xs.length 0 none = 0 := rfl
  rw [e0]; simp
theorem cut_map {α : Type} (f : α → D) (xs : List α) (lo hi : Option Int) : ∃ ys : List α, cutD (xs.map f) lo hi = ys.map f ∧ ys.Sublist xs := by
  unfold cutD
  rw [← List.map_drop, ← List.map_take]
  exact ⟨_, rfl, (List.take_sublist _ _).trans (List.drop_sublist _ _)⟩
end
/-- a def with a raw promise, as its callers see it -/
structure Dr (P : Program) (w : World) (K : PySem.W.Frag) (mg : Str → Option Value) (base : Heap) (x : Str) (k : Nat) (ps : List Str) (S : Sp) where
  f : Addr
  fd : FuncData
  G : FnOk P w K mg base CX0 k f fd ps S
  m : mg x = some (.ref f)
  k : PySem.W.keepIn K (.ref f) = true
  b : Binds K fd ps []
  v : Vals [] []
theorem we_slA {c : Ctx} {ρ : List SD} {n : Nat} {tl th : TO} {Φ : Nat → D → Prop} {i : Nat} {a : Addr} {ns : List Int} (hB : c.bag = none) (hS : SqL c.K c.H0 a (ns.map V.int)) (hi : ρ[i]? = some (.val (.adr a)))
    (h : WO c tl ρ n fun n2 lo => WO c th ρ n2 fun n3 hi => Φ n3 (.lst (cutD (ns.map .int) lo hi))) : WE c (tSl (rSlS3 c.K) (tVar i) tl th) ρ n Φ := fun P L σ H Q E q => by
  refine we_var (Φ := fun n1 d => n1 = n ∧ d = .adr a) hi ⟨rfl, rfl⟩ P L σ H _ E fun x d n1 H1 s1 j1 r1 ⟨e1, e2⟩ => ?_
  subst e1; subst e2
  have E1 := E.step s1 j1
  refine h P L σ H1 _ E1 fun lo n2 H2 s2 j2 h2 => ?_
  have E2 := E1.step s2 j2
  refine h2 P L σ H2 _ E2 fun hi n3 H3 s3 j3 k => ?_
  have E3 := E2.step s3 j3
  have s := (s1.trans s2).trans s3
  cases r1
  have hb : Same c.H0 H3 := fun o u e => by
    have hz : o ∉ c.B := fun q => by
      unfold Ctx.B at q
      rw [hB] at q
      cases q
    exact (hid_some.mp (E3.base o u (hid_some.mpr ⟨hz, e⟩))).2
  refine .inl ⟨_, _, rfl, same_l hb hS, fun p hp => ?_⟩
  have z := E3.newT (o := .lst (cutV (ns.map V.int) lo hi)) hp
  have ra : ∀ (H : Hp) (ns : List Int), RpAll c.K H (ns.map V.int) (ns.map D.int) := fun H ns => by
    induction ns with
    | nil => exact .nil
    | cons x ns ih => exact .cons (.int x) ih
  exact q _ _ n3 _ (s.trans z.1) z.2.1 (.lst (.inl (hid_at z.2.2)) ((ra _ ns).cut lo hi)) k
theorem we_neg {c : Ctx} {ρ : List SD} {n : Nat} {ta : TE} {Φ : Nat → D → Prop} (h : WE c ta ρ n fun n1 d => ∃ i, d = .int i ∧ Φ n1 (.int (-i))) : WE c (tUn (rU fun i => .int (-i)) ta) ρ n Φ := we_un (h.mono fun n1 d ⟨i, e, k⟩ O H x Q r no q => by
  subst e
  cases r
  exact ⟨i, rfl, q _ _ H (Same.refl _) (.int _) k⟩)
theorem fit_list {ds : List D} (h : ∀ d ∈ ds, fit d = true ∧ (dpy d).depth ≤ 60) : fit (.lst ds) = true ∧ fit (.tup ds) = true := by
  have hp : plainAll ds = true := by
    induction ds with
    | nil => rfl
    | cons x ds ih =>
      show (plain x && plainAll ds) = true
      rw [fit_p (h x List.mem_cons_self).1, ih fun d hd => h d (List.mem_cons_of_mem _ hd)]; rfl
  have hc : PyData.canLayAll0 (dpyAll ds) = true ∧ PyData.depthAll (dpyAll ds) ≤ 60 := by
    clear hp
    induction ds with
    | nil => exact ⟨rfl, Nat.zero_le _⟩
    | cons x ds ih =>
      obtain ⟨i1, i2⟩ := ih fun d hd => h d (List.mem_cons_of_mem _ hd)
      have hx := h x List.mem_cons_self
      refine ⟨?_, ?_⟩
      · show (PyData.canLay0 (dpy x) && PyData.canLayAll0 (dpyAll ds)) = true
        rw [SeqAt.canLay_of_shaped (fit_s hx.1), i1]; rfl
      · show max (PyData.depth (dpy x)) (PyData.depthAll (dpyAll ds)) ≤ 60
        exact Nat.max_le.mpr ⟨hx.2, i2⟩
  have sh : SeqAt.shaped (dpy (.lst ds)) = true ∧ SeqAt.shaped (dpy (.tup ds)) = true := by
    unfold SeqAt.shaped
    have d1 : (dpy (.lst ds)).depth = PyData.depthAll (dpyAll ds) + 1 := rfl
    have d2 : (dpy (.tup ds)).depth = PyData.depthAll (dpyAll ds) + 1 := rfl
    have c1 : (dpy (.lst ds)).canLay0 = PyData.canLayAll0 (dpyAll ds) := rfl
    have c2 : (dpy (.tup ds)).canLay0 = PyData.canLayAll0 (dpyAll ds) := rfl
    rw [d1, d2, c1, c2, hc.1]
    have : decide (PyData.depthAll (dpyAll ds) + 1 ≤ 64) = true := decide_eq_true (by omega)
    rw [this]; exact ⟨rfl, rfl⟩
  unfold fit
  have p1 : plain (.lst ds) = plainAll ds := rfl
  have p2 : plain (.tup ds) = plainAll ds := rfl
  rw [p1, p2, hp, sh.1, sh.2]; exact ⟨rfl, rfl⟩
theorem eq_self {d : D} (h : fit d = true) : eqD d d = true := SeqAt.eqv_refl _ (SeqAt.canLay_of_shaped (fit_s h))
theorem gN_go {i : Nat} {v : V} {σ : L2.St} {H : Hp} {Q : L2.St → Hp → Prop} (h : Q (σ.set i (some v)) H) : gName i v σ H Q := h
end L3
/-! L3m: instances: fields read, methods called, made. -/
namespace L3
open PySem L2
section
variable {K : PySem.W.Frag} {H : Hp}
theorem RpFs.look {f : Str} {d : D} : ∀ {vs : List (Str × V)} {ds : List (Str × D)}, RpFs K H vs ds → ds.lookup f = some d → ∃ v, vs.lookup f = some v ∧ Rp K H v d
  | _, _, .nil, e => by cases e
  | _, _, .cons (x := x) h r, e => by
    rw [List.lookup_cons] at e ⊢
    cases q : (f == x) with
    | true => rw [q] at e; cases e; exact ⟨_, rfl, h⟩
    | false => rw [q] at e; exact r.look e
theorem RpFs.none {f : Str} : ∀ {vs : List (Str × V)} {ds : List (Str × D)}, RpFs K H vs ds → ds.lookup f = none → vs.lookup f = none
  | _, _, .nil, _ => rfl
  | _, _, .cons (x := x) h r, e => by
    rw [List.lookup_cons] at e ⊢
    cases q : (f == x) with
    | true => rw [q] at e; cases e
    | false => rw [q] at e; exact r.none e
theorem RpFs.length : ∀ {vs : List (Str × V)} {ds : List (Str × D)}, RpFs K H vs ds → vs.length = ds.length
  | _, _, .nil => rfl
  | _, _, .cons _ r => by rw [List.length_cons, List.length_cons, r.length]
def putFD (f : Str) (d : D) : List (Str × D) → List (Str × D)
  | [] => [(f, d)]
  | (g, x) :: r => if g = f then (g, d) :: r else (g, x) :: putFD f d r
theorem RpFs.put {f : Str} {v : V} {d : D} (h : Rp K H v d) : ∀ {vs : List (Str × V)} {ds : List (Str × D)}, RpFs K H vs ds → RpFs K H (putF f v vs) (putFD f d ds)
  | _, _, .nil => .cons h .nil
  | _, _, .cons (x := x) h0 r => by
    show RpFs K H (if x = f then (x, v) :: _ else _) (if x = f then (x, d) :: _ else _)
    by_cases q : x = f
    · rw [if_pos q, if_pos q]; exact .cons h r
    · rw [if_neg q, if_neg q]; exact .cons h0 (r.put h)
end
section
variable {c : Ctx} {ρ : List SD} {n : Nat} {te to : TE} {as : TA} {Φ : Nat → D → Prop}
theorem we_fld {C : Addr} {f : Str} (cl : Cls c.K C) (na : NoAttr c.K C f) (h : WE c te ρ n fun n1 x => ∃ ds, x = .obj C ds ∧ ∃ d, ds.lookup f = some d ∧ Φ n1 d) : WE c (tFld c.K te f) ρ n Φ := fun P L σ H Q E q => by
  refine h P L σ H _ E fun x d n1 H1 s1 j1 r1 ⟨ds, e, d2, hl, k⟩ => ?_
  subst e
  cases r1 with
  | obj h1 hf =>
    obtain ⟨v, hv, rv⟩ := hf.look hl
    exact ⟨_, C, _, _, v, rfl, (hid_some.mp h1).2, cl, na, hv, q v d2 n1 H1 s1 j1 rv k⟩
theorem we_meth {C : Addr} {m : Str} {S : L3.Spec} {dvs : List V} {dds : List D} {XE : XK} (hd : ∀ H, RpAll c.K H dvs dds)
    (h : WE c to ρ n fun n1 x => ∃ ds, x = .obj C ds ∧ ds.lookup m = none ∧ WA c as ρ n1 fun n2 es => S c.bag n2 (.obj C ds :: (es ++ dds)) Φ) : WE c (tMeth C m (spD c.K S) dvs XE to as) ρ n Φ := fun P L σ H Q E q => by
  refine h P L σ H _ E fun x d n1 H1 s1 j1 r1 ⟨ds, e, hn, ha⟩ => ?_
  subst e
  have E1 := E.step s1 j1
  cases r1 with
  | obj h1 hf =>
    refine ⟨_, _, _, rfl, (hid_some.mp h1).2, hf.none hn, ?_⟩
    refine ha P L σ H1 _ E1 fun vs es n2 H2 s2 j2 r2 k => ?_
    have E2 := E1.step s2 j2
    refine ⟨L ++ c.O, c.bag, n2, _, Φ, fun b q hb => ⟨j2 b q hb, List.mem_append_right _ (E.bO b q hb).1, List.mem_append_right _ (E.bO b q hb).2.1, (E.bO b q hb).2.2⟩, E2.alLO, .cons ((Rp.obj h1 hf).mono (E1.sameLO s2)) (r2.append (hd _)), k, fun v d n3 H3 s3 j3 r3 k3 => ?_⟩
    exact q v d n3 H3 ((s1.trans s2).trans s3) j3 r3 k3
/-- what an __init__ promises, over data -/
abbrev SpecI := Option (Addr × Addr) → Nat → List D → (Nat → List (Str × D) → Prop) → Prop
def spI (K : PySem.W.Frag) (C : Addr) (S : SpecI) : Sp := fun vs H Q _ => ∃ (O : List Addr) (bag : Option (Addr × Addr)) (n : Nat) (ds : List D) (Φ : Nat → List (Str × D) → Prop) (p dx : Addr) (ws : List V),
  vs = .ref p :: ws ∧ H p = some (.ins C dx []) ∧ p ∉ O ∧ (∀ b q, bag = some (b, q) → BagOk b q n H ∧ b ∈ O ∧ q ∈ O ∧ q ≠ b) ∧ (∀ o ∈ O, H o ≠ none) ∧ RpAll K (hid (p :: O) H) ws ds ∧ S bag n ds Φ ∧
  ∀ fs ks n' H', Same (hid (p :: (bag.map (·.1)).toList) H) (hid (p :: (bag.map (·.1)).toList) H') → (∀ b q, bag = some (b, q) → BagOk b q n' H') → H' p = some (.ins C dx fs) → RpFs K (hid (p :: O) H') fs ks → Φ n' ks → Q .non H'
theorem we_make {C : Addr} {S : SpecI} {dvs : List V} {dds : List D} {XE : XK} (hd : ∀ H, RpAll c.K H dvs dds) (h : WA c as ρ n fun n1 ds => S c.bag n1 (ds ++ dds) fun n2 ks => Φ n2 (.obj C ks)) : WE c (tMake C (spI c.K C S) dvs XE as) ρ n Φ := fun P L σ H Q E q => by
  refine h P L σ H _ E fun vs ds n1 H1 s1 j1 r1 k => ?_
  have E1 := E.step s1 j1
  intro x dx nx ndx nex
  have xO : x ∉ L ++ c.O := E1.noO x nx
  have keep : ∀ a o, H1 a = some o → (upd (upd H1 dx (.own x)) x (.ins C dx [])) a = some o := fun a o e => by
    rw [upd_ne (fun z : a = x => by rw [z, nx] at e; cases e), upd_ne (fun z : a = dx => by rw [z, ndx] at e; cases e)]
    exact e
  have sm : Same (hid (L ++ c.O) H1) (hid (x :: (L ++ c.O)) (upd (upd H1 dx (.own x)) x (.ins C dx []))) := fun a o e => by
    obtain ⟨e1, e2⟩ := hid_some.mp e
    refine hid_some.mpr ⟨fun z => ?_, keep a o e2⟩
    rcases List.mem_cons.mp z with z | z
    · rw [z, nx] at e2; cases e2
    · exact e1 z
  refine ⟨L ++ c.O, c.bag, n1, ds ++ dds, _, x, dx, vs ++ dvs, rfl, upd_same, xO, fun b q hb => ⟨(j1 b q hb).move (fun o e => keep b o e) (fun o e => keep q o e), List.mem_append_right _ (E.bO b q hb).1, List.mem_append_right _ (E.bO b q hb).2.1, (E.bO b q hb).2.2⟩, fun o ho => ?_, (r1.mono sm).append (hd _), k, fun fs ks n2 H3 s3 j3 hx hf kk => ⟨rfl, ?_⟩⟩
  · cases e : H1 o with
    | none => exact absurd e (E1.alLO o ho)
    | some u => rw [keep o u e]; exact fun z => nomatch z
  · refine q (.ref x) (.obj C ks) n2 H3 (s1.trans fun a o e => ?_) j3 (.obj (dx := dx) (hid_some.mpr ⟨xO, hx⟩) (hf.mono (same_hid_sub fun a ha => List.mem_cons_of_mem _ ha))) kk
    obtain ⟨e1, e2⟩ := hid_some.mp e
    have ne : a ≠ x := fun z => by rw [z, nx] at e2; cases e2
    have z := s3 a o (hid_some.mpr ⟨fun z => by
      rcases List.mem_cons.mp z with z | z
      · exact ne z
      · exact e1 z, keep a o e2⟩)
    exact hid_some.mpr ⟨e1, (hid_some.mp z).2⟩
end
end L3
/-! L3n: __init__: field by field. -/
namespace L3
open PySem L2
abbrev bagB (bag : Option (Addr × Addr)) : List Addr := (bag.map (·.1)).toList
def flat : List SD → Bool
  | [] => true
  | .un :: r => flat r
  | .val _ :: r => flat r
  | _ :: _ => false
theorem Slots.flat {pr : Program} {wd : World} {K : PySem.W.Frag} {O : List Addr} {H : Hp} : ∀ {σ : List (Option V)} {ρ : List SD} {L : List Addr}, Slots pr wd K O H σ ρ L → L3.flat ρ = true → L = []
  | _, _, _, .nil, _ => rfl
  | _, _, _, .un s, h => Slots.flat s h
  | _, _, _, .val _ s, h => Slots.flat s h
  | _, _, _, .own _ _ _, h => by cases h
  | _, _, _, .dic _ _, h => by cases h
  | _, _, _, .dk _ _, h => by cases h
  | _, _, _, .tw _ _, h => by cases h
/-- any statement that is never reached -/
theorem ps_never {X : Cx} {st : Stmt} : PS X st (fun _ _ _ => False) := ⟨fun _ _ _ _ _ _ h => h.elim⟩
section
variable {P : Program} {w : World} {K : PySem.W.Frag} {mg : Str → Option Value} {base : Heap} {O : List Addr} {bag : Option (Addr × Addr)} {p C dx : Addr} {ρ : List SD} {n : Nat} {ks : List (Str × D)} {Φ : Nat → List (Str × D) → Prop} {te : TE} {ts us : TS} {f : Str}
def WN (P : Program) (w : World) (K : PySem.W.Frag) (O : List Addr) (bag : Option (Addr × Addr)) (p C dx : Addr) (ts : TS) (ρ : List SD) (n : Nat) (ks : List (Str × D)) (Φ : Nat → List (Str × D) → Prop) : Prop :=
  ∀ (H : Hp) (σ : List (Option V)) (fs : List (Str × V)) (Dn : Ends), H p = some (.ins C dx fs) → p ∉ O → RpFs K (hid (p :: O) H) fs ks → Env ⟨P, w, K, p :: O, bag, H⟩ (fun _ => none) [] n H σ ρ →
  (∀ σ' fs' ks' n' H', Same (hid (p :: bagB bag) H) (hid (p :: bagB bag) H') → (∀ b q, bag = some (b, q) → BagOk b q n' H') → H' p = some (.ins C dx fs') → RpFs K (hid (p :: O) H') fs' ks' → Φ n' ks' → Dn.nx σ' H') → ts Dn σ H
/-- one store -/
theorem wn_go {H : Hp} {σ : List (Option V)} {fs : List (Str × V)} {Q : List (Option V) → Hp → Prop} {Dn : Ends} (cl : Cls K C) (na : NoAttr K C f) (hl : ks.length < 1000) (hs : ρ[0]? = some (.val (.adr p)))
    (hp : H p = some (.ins C dx fs)) (pO : p ∉ O) (hf : RpFs K (hid (p :: O) H) fs ks) (E : Env ⟨P, w, K, p :: O, bag, H⟩ (fun _ => none) [] n H σ ρ) {Ψ : Nat → D → Prop} (h : WE ⟨P, w, K, p :: O, bag, H⟩ te ρ n Ψ)
    (k : ∀ y d n1 H3, Ψ n1 d → Same (hid (p :: bagB bag) H) (hid (p :: bagB bag) H3) → H3 p = some (.ins C dx (putF f y fs)) → RpFs K (hid (p :: O) H3) (putF f y fs) (putFD f d ks) → Env ⟨P, w, K, p :: O, bag, H3⟩ (fun _ => none) [] n1 H3 σ ρ → Dn.nx σ H3) : sFld K (tVar 0) te f Dn σ H := by
  refine h (fun _ => none) [] σ H _ E fun y d n1 H1 s1 j1 r1 kk => ?_
  have E1 := E.step s1 j1
  refine we_var (c := ⟨P, w, K, p :: O, bag, H⟩) (n := n1) (Φ := fun m z => m = n1 ∧ z = .adr p) hs ⟨rfl, rfl⟩ (fun _ => none) [] σ H1 _ E1 fun x d2 n2 H2 s2 j2 r2 ⟨e1, e2⟩ => ?_
  subst e1; subst e2
  cases r2
  have E2 := E1.step s2 j2
  have s12 := s1.trans s2
  have pB : p ∉ bagB bag := fun z => by
    obtain ⟨q, hq⟩ := (mem_B (c := ⟨P, w, K, p :: O, bag, H⟩)).mp z
    obtain ⟨xs, hx⟩ := (E.bag p q hq).lst
    rw [hp] at hx; cases hx
  have hp2 : H2 p = some (.ins C dx fs) := (hid_some.mp (s12 p _ (hid_some.mpr ⟨pB, hp⟩))).2
  have hb : ∀ b q, bag = some (b, q) → BagOk b q n2 (upd H2 p (.ins C dx (putF f y fs))) := fun b q e => by
    have B := E2.bag b q e
    refine B.move (fun o ho => ?_) (fun o ho => ?_)
    · rw [upd_ne (fun z : b = p => by obtain ⟨xs, hx⟩ := B.lst; rw [z, hp2] at hx; cases hx)]; exact ho
    · rw [upd_ne (fun z : q = p => by obtain ⟨_, _, _, _, hx, _⟩ := B; rw [z, hp2] at hx; cases hx)]; exact ho
  have hh : hid (p :: O) (upd H2 p (.ins C dx (putF f y fs))) = hid (p :: O) H2 := hid_upd_in List.mem_cons_self
  refine ⟨p, C, dx, fs, rfl, hp2, cl, na, by rw [hf.length]; exact hl, ?_⟩
  refine k y d n2 _ kk (fun a o e => ?_) upd_same ?_ ?_
  · obtain ⟨e1, e2⟩ := hid_some.mp e
    have ne : a ≠ p := fun z => e1 (z ▸ List.mem_cons_self)
    have z := s12 a o (hid_some.mpr ⟨fun z => e1 (List.mem_cons_of_mem _ z), e2⟩)
    exact hid_some.mpr ⟨e1, by rw [upd_ne ne]; exact (hid_some.mp z).2⟩
  · rw [hh]
    exact ((hf.mono (E.sameLO s12)).put (r1.mono (E1.sameLO s2)))
  · obtain ⟨Ls, sl, sb⟩ := E2.slots
    have eL : Ls = [] := List.eq_nil_of_sublist_nil sb
    subst eL
    exact { nd := List.nodup_nil, fresh := (fun l hl => nomatch hl), slots := ⟨[], sl.move (fun l hl => nomatch hl) (by show Same (hid (p :: O) H2) (hid (p :: O) _); rw [hh]; exact Same.refl _), List.Sublist.refl _⟩, lst := (fun l hl => nomatch hl), bag := hb, base := Same.refl _,
            pers := (fun _ _ e => nomatch e), bO := E2.bO, al := fun o ho => by
              by_cases z : o = p
              · rw [z, upd_same]; exact fun z => nomatch z
              · rw [upd_ne z]; exact E2.al o ho }
theorem wn_st (cl : Cls K C) (na : NoAttr K C f) (hl : ks.length < 1000) (hs : ρ[0]? = some (.val (.adr p))) (h : ∀ H0, WE ⟨P, w, K, p :: O, bag, H0⟩ te ρ n fun n1 d => Φ n1 (putFD f d ks)) : WN P w K O bag p C dx (sFld K (tVar 0) te f) ρ n ks Φ := fun H σ fs Dn hp pO hf E q =>
  wn_go (Q := fun _ _ => True) cl na hl hs hp pO hf E (h H) fun y d n1 H3 kk s hp3 hf3 E3 => q σ _ _ n1 H3 s E3.bag hp3 hf3 kk
theorem wn_seq (cl : Cls K C) (na : NoAttr K C f) (hl : ks.length < 1000) (hs : ρ[0]? = some (.val (.adr p))) (h : ∀ H0, WE ⟨P, w, K, p :: O, bag, H0⟩ te ρ n fun n1 d => WN P w K O bag p C dx us ρ n1 (putFD f d ks) Φ) : WN P w K O bag p C dx (tSeq (sFld K (tVar 0) te f) us) ρ n ks Φ := fun H σ fs Dn hp pO hf E q =>
  wn_go (Q := fun _ _ => True) (Dn := { Dn with nx := us Dn }) cl na hl hs hp pO hf E (h H) fun y d n1 H3 kk s hp3 hf3 E3 => kk H3 σ _ Dn hp3 pO hf3 E3 fun σ' fs' ks' n' H' s' b' hp' hf' kk' => q σ' fs' ks' n' H' (s.trans s') b' hp' hf' kk'
/-- statements ahead of the stores -/
theorem wn_pre (h : ∀ H0, WS ⟨P, w, K, p :: O, bag, H0⟩ ts ρ n { nx := fun n1 ρ1 => flat ρ1 = true ∧ WN P w K O bag p C dx us ρ1 n1 ks Φ, rt := fun _ _ => False }) : WN P w K O bag p C dx (tSeq ts us) ρ n ks Φ := fun H σ fs Dn hp pO hf E q => by
  refine h H (fun _ => none) [] σ H { Dn with nx := us Dn } E { nx := fun L n1 H1 σ1 ρ1 E1 ⟨hfl, hn⟩ => ?_, rt := fun _ _ _ _ _ _ _ h => h.elim, bk := fun _ _ _ _ _ _ h => h.elim, ct := fun _ _ _ _ _ _ h => h.elim }
  have pB : p ∉ bagB bag := fun z => by
    obtain ⟨q, hq⟩ := (mem_B (c := ⟨P, w, K, p :: O, bag, H⟩)).mp z
    obtain ⟨xs, hx⟩ := (E.bag p q hq).lst
    rw [hp] at hx; cases hx
  have hp1 : H1 p = some (.ins C dx fs) := (hid_some.mp (E1.base p _ (hid_some.mpr ⟨pB, hp⟩))).2
  have bO : ∀ a, a ∈ bagB bag → a ∈ p :: O := fun a ha => E.inO (show a ∈ (⟨P, w, K, p :: O, bag, H⟩ : Ctx).B from ha)
  have s0 : Same (hid (p :: O) H) (hid (p :: O) H1) := same_hid_more bO E1.base
  obtain ⟨Ls, sl, sb⟩ := E1.slots
  have eL := sl.flat hfl
  subst eL
  refine hn H1 σ1 fs Dn hp1 pO (hf.mono s0) ?_ fun σ' fs' ks' n' H' s' b' hp' hf' kk' => q σ' fs' ks' n' H' ((same_hid_more (fun a ha => List.mem_cons_of_mem _ ha) E1.base).trans s') b' hp' hf' kk'
  exact { nd := List.nodup_nil, fresh := (fun l hl => nomatch hl), slots := ⟨[], sl.move (fun l hl => nomatch hl) (same_hid_sub fun a ha => List.mem_append_right _ ha), List.Sublist.refl _⟩, lst := (fun l hl => nomatch hl), bag := E1.bag, base := Same.refl _,
          pers := (fun _ _ e => nomatch e), bO := E1.bO, al := E1.al }
/-- THE RULE for an __init__, over data -/
theorem fn_I {x qual : Str} {st : Stmt} {fa : Addr} {fd : FuncData} {N ps : List Str} {k : Nat} {S : SpecI} (F : Fun K x qual st fa fd) (sc : FnScope N ps (defScope st))
    (len : ∀ bag n ds Φ, S bag n ds Φ → ds.length + 1 = ps.length)
    (body : ∀ (cdv : Value) (A : Around) (outer : List PySem.Env) (s : Shared) (H : Hp) (E : XK) (O : List Addr) (bag : Option (Addr × Addr)) (n : Nat) (ds : List D) (Φ : Nat → List (Str × D) → Prop) (p dx : Addr), Room k (A.deeper (PyProof.Rows.envOfC qual (defScope st) s.heap.objs.size fa cdv)) → S bag n ds Φ →
      ∃ t, PSs (cxOf CX0 P w K mg base N qual (defScope st) fa cdv A outer s H E).nox (defBody st) t ∧ WN P w K O bag p C dx t (rho N (.adr p :: ds)) n [] Φ) :
    FnOk P w K mg base CX0 (k + 1) fa fd ps (spI K C S) := by
  refine F.ok sc (fun vs H Q E h => ?_) (fun cdv A outer s H vs Q E hr h => ?_)
  · obtain ⟨O, bag, n, ds, Φ, p, dx, ws, rfl, _, _, _, _, r, hS, _⟩ := h
    rw [List.length_cons, r.length]; exact len bag n ds Φ hS
  · obtain ⟨O, bag, n, ds, Φ, p, dx, ws, rfl, hp, pO, hb, hO, r, hS, q⟩ := h
    obtain ⟨t, ht, W⟩ := body cdv A outer s H E O bag n ds Φ p dx hr hS
    refine ⟨t, ht, W H _ [] _ hp pO .nil ?_ fun σ' fs' ks' n' H' s' b' hp' hf' kk' => q fs' ks' n' H' s' b' hp' hf' kk'⟩
    have r' : RpAll K (hid (p :: O) H) (.ref p :: ws) (.adr p :: ds) := .cons (.adr p) r
    have e : L2.start N (.ref p :: ws) = (.ref p :: ws).map some ++ List.replicate (N.length - (D.adr p :: ds).length) none := by unfold L2.start; rw [r'.length]
    exact { nd := List.nodup_nil, fresh := (fun l hl => nomatch hl), slots := ⟨[], by rw [e]; exact slots_start r', List.Sublist.refl _⟩, lst := (fun l hl => nomatch hl), bag := fun b q e => (hb b q e).1, base := Same.refl _,
            pers := (fun _ _ e => nomatch e), bO := fun b q e => ⟨List.mem_cons_of_mem _ (hb b q e).2.1, List.mem_cons_of_mem _ (hb b q e).2.2.1, (hb b q e).2.2.2⟩,
            al := fun o ho => by
              rcases List.mem_cons.mp ho with z | z
              · rw [z, hp]; exact fun z => nomatch z
              · exact hO o z }
end
end L3
/-! L3o: dicts with int and text keys: as data, as one's own. -/
namespace L3
open PySem L2
section
variable {c : Ctx} {ρ : List SD} {n : Nat} {ta tb te td ty tx : TE} {t u : TT} {as : TA} {Φ : Nat → D → Prop} {Ψ : Out} {ts us : TS}
def keyK : D → Option L2.Key
  | .int i => some (.inl i)
  | .str x => some (.inr x)
  | _ => none
theorem keyK_V {K : PySem.W.Frag} {H : Hp} {v : V} {d : D} {k : L2.Key} (r : Rp K H v d) (h : keyK d = some k) : v = kV k := by
  cases r <;> first | (cases h; rfl) | cases h
def lookK (kvs : List (L2.Key × D)) (k : L2.Key) : Option D := (kvs.find? fun kv => decide (kv.1 = k)).map (·.2)
def putKD (kvs : List (L2.Key × D)) (k : L2.Key) (d : D) : List (L2.Key × D) := if (kvs.any fun kv => decide (kv.1 = k)) = true then kvs.map (fun kv => if kv.1 = k then (kv.1, d) else kv) else kvs ++ [(k, d)]
section
variable {K : PySem.W.Frag} {H : Hp}
theorem RpKs.length : ∀ {xs : List (L2.Key × V)} {kvs : List (L2.Key × D)}, RpKs K H xs kvs → xs.length = kvs.length
  | _, _, .nil => rfl
  | _, _, .cons _ r => by rw [List.length_cons, List.length_cons, r.length]
theorem RpKs.look {k : L2.Key} : ∀ {xs : List (L2.Key × V)} {kvs : List (L2.Key × D)}, RpKs K H xs kvs → (∀ d, lookK kvs k = some d → ∃ v, valV xs k = some v ∧ Rp K H v d) ∧ (lookK kvs k = none → valV xs k = none)
  | _, _, .nil => ⟨fun d e => by simp [lookK] at e, fun _ => rfl⟩
  | _, _, .cons (x := x) h r => by
    obtain ⟨i1, i2⟩ := RpKs.look (k := k) r
    unfold lookK valV at *
    by_cases q : x = k
    · subst q
      simp only [List.find?_cons, decide_true]
      exact ⟨fun d e => by cases e; exact ⟨_, rfl, h⟩, fun e => by cases e⟩
    · simp only [List.find?_cons, decide_eq_false q]
      exact ⟨i1, i2⟩
theorem RpKs.any {k : L2.Key} : ∀ {xs : List (L2.Key × V)} {kvs : List (L2.Key × D)}, RpKs K H xs kvs → (xs.any fun kv => decide (kv.1 = k)) = kvs.any fun kv => decide (kv.1 = k)
  | _, _, .nil => rfl
  | _, _, .cons _ r => by rw [List.any_cons, List.any_cons, r.any]
theorem RpKs.repl {k : L2.Key} {v : V} {d : D} (h : Rp K H v d) : ∀ {xs : List (L2.Key × V)} {kvs : List (L2.Key × D)}, RpKs K H xs kvs → RpKs K H (xs.map fun kv => if kv.1 = k then (kv.1, v) else kv) (kvs.map fun kv => if kv.1 = k then (kv.1, d) else kv)
  | _, _, .nil => .nil
  | _, _, .cons (x := x) (v := v0) (vs := vs) (d := d0) (ds := ds) h0 r => by
    have ih := RpKs.repl (k := k) h r
    show RpKs K H ((if x = k then (x, v) else (x, v0)) :: _) ((if x = k then (x, d) else (x, d0)) :: _)
    by_cases q : x = k
    · rw [if_pos q, if_pos q]; exact .cons h ih
    · rw [if_neg q, if_neg q]; exact .cons h0 ih
theorem RpKs.snoc {k : L2.Key} {v : V} {d : D} (h : Rp K H v d) : ∀ {xs : List (L2.Key × V)} {kvs : List (L2.Key × D)}, RpKs K H xs kvs → RpKs K H (xs ++ [(k, v)]) (kvs ++ [(k, d)])
  | _, _, .nil => .cons h .nil
  | _, _, .cons h0 r => .cons h0 (RpKs.snoc h r)
theorem RpKs.put {k : L2.Key} {v : V} {d : D} (h : Rp K H v d) {xs : List (L2.Key × V)} {kvs : List (L2.Key × D)} (r : RpKs K H xs kvs) : RpKs K H (putK xs k v) (putKD kvs k d) := by
  unfold putK putKD
  rw [r.any]
  by_cases q : (kvs.any fun kv => decide (kv.1 = k)) = true
  · rw [if_pos q, if_pos q]; exact r.repl h
  · rw [if_neg q, if_neg q]; exact r.snoc h
end
theorem Slots.freezeK {pr : Program} {wd : World} {K : PySem.W.Frag} {O : List Addr} {H : Hp} {kvs : List (L2.Key × D)} : ∀ {σ : List (Option V)} {ρ : List SD} {L : List Addr} {i : Nat}, Slots pr wd K O H σ ρ L → ρ[i]? = some (.dk kvs) → ∃ L1 l L2 xs, L = L1 ++ l :: L2 ∧ H l = some (.dK xs) ∧ RpKs K (hid O H) xs kvs ∧
    ∀ O' , Same (hid O H) (hid O' H) → l ∉ O' → Slots pr wd K O' H σ (ρ.set i (.val (.dct kvs))) (L1 ++ L2)
  | _, _, _, _, .nil, e => by simp at e
  | _, _, _, 0, .un _, e => by simp at e
  | _, _, _, i + 1, .un s, e => by
    obtain ⟨L1, l, L2, xs, h1, h2, h3, h4⟩ := Slots.freezeK (i := i) s (by simpa using e)
    exact ⟨L1, l, L2, xs, h1, h2, h3, fun O' a b => .un (h4 O' a b)⟩
  | _, _, _, 0, .val _ _, e => by simp at e
  | _, _, _, i + 1, .val r s, e => by
    obtain ⟨L1, l, L2, xs, h1, h2, h3, h4⟩ := Slots.freezeK (i := i) s (by simpa using e)
    exact ⟨L1, l, L2, xs, h1, h2, h3, fun O' a b => .val (r.mono a) (h4 O' a b)⟩
  | _, _, _, 0, .own h r s, e => by simp at e
  | _, _, _, i + 1, .own h r s, e => by
    obtain ⟨L1, l, L2, xs, h1, h2, h3, h4⟩ := Slots.freezeK (i := i) s (by simpa using e)
    exact ⟨_ :: L1, l, L2, xs, by rw [h1]; rfl, h2, h3, fun O' a b => .own h (r.mono a) (h4 O' a b)⟩
  | _, _, _, 0, .dic _ _, e => by simp at e
  | _, _, _, 0, .dk ⟨xs, h, r⟩ s, e => by
    simp at e
    subst e
    exact ⟨[], _, _, _, rfl, h, r, fun O' a b => .val (.dct (.inl (by rw [hid_out b]; exact h)) (r.mono a)) (s.move (fun _ _ => rfl) a)⟩
  | _, _, _, 0, .tw h s, e => by simp at e
  | _, _, _, i + 1, .dic h s, e => by
    obtain ⟨L1, l, L2, xs, h1, h2, h3, h4⟩ := Slots.freezeK (i := i) s (by simpa using e)
    exact ⟨_ :: L1, l, L2, xs, by rw [h1]; rfl, h2, h3, fun O' a b => .dic (h.move rfl a) (h4 O' a b)⟩
  | _, _, _, i + 1, .dk h s, e => by
    obtain ⟨L1, l, L2, xs, h1, h2, h3, h4⟩ := Slots.freezeK (i := i) s (by simpa using e)
    exact ⟨_ :: L1, l, L2, xs, by rw [h1]; rfl, h2, h3, fun O' a b => .dk (h.move rfl a) (h4 O' a b)⟩
  | _, _, _, i + 1, .tw h s, e => by
    obtain ⟨L1, l, L2, xs, h1, h2, h3, h4⟩ := Slots.freezeK (i := i) s (by simpa using e)
    exact ⟨_ :: L1, l, L2, xs, by rw [h1]; rfl, h2, h3, fun O' a b => .tw (h.move rfl a) (h4 O' a b)⟩
theorem Env.freezeK {P : Hp} {L : List Addr} {n : Nat} {H : Hp} {σ : List (Option V)} {i : Nat} {kvs : List (L2.Key × D)} (E : Env c P L n H σ ρ) (h : ρ[i]? = some (.dk kvs)) : ∃ L', Env c P L' n H σ (ρ.set i (.val (.dct kvs))) ∧ L'.Sublist L := by
  obtain ⟨Ls, sl, sb⟩ := E.slots
  obtain ⟨L1, l, L2, xs, h1, h2, h3, h4⟩ := sl.freezeK h
  have lL : l ∈ L := sb.subset (by rw [h1]; simp)
  have sub : (L.erase l).Sublist L := List.erase_sublist
  have nl : l ∉ L.erase l := E.nd.not_mem_erase
  have sb2 : (L1 ++ L2).Sublist (L.erase l) := by
    have nd := sb.nodup E.nd
    rw [h1] at nd
    have n1 : l ∉ L1 := fun q => by
      have := (List.nodup_append.mp nd).2.2 l q l List.mem_cons_self
      exact this rfl
    have q : (Ls.erase l).Sublist (L.erase l) := sb.erase l
    rw [h1, List.erase_append_right _ n1, List.erase_cons_head] at q
    exact q
  have nO : l ∉ (L.erase l) ++ c.O := fun q => by
    rcases List.mem_append.mp q with q | q
    · exact nl q
    · exact (E.fresh l lL).2 q
  have se : Same (hid (L ++ c.O) H) (hid ((L.erase l) ++ c.O) H) := same_hid_sub fun a ha => by
    rcases List.mem_append.mp ha with q | q
    · exact List.mem_append_left _ (sub.subset q)
    · exact List.mem_append_right _ q
  exact ⟨L.erase l, { nd := sub.nodup E.nd, fresh := fun l hl => E.fresh l (sub.subset hl), slots := ⟨_, h4 _ se nO, sb2⟩, lst := fun l hl => E.lst l (sub.subset hl), base := E.base, pers := E.pers.trans se, bO := E.bO, al := E.al, bag := E.bag }, sub⟩
theorem Slots.dk_at {pr : Program} {wd : World} {K : PySem.W.Frag} {O : List Addr} {H : Hp} {kvs lvs : List (L2.Key × D)} : ∀ {σ : List (Option V)} {ρ : List SD} {L : List Addr} {i : Nat}, Slots pr wd K O H σ ρ L → L.Nodup → ρ[i]? = some (.dk kvs) → ∃ l, σ[i]? = some (some (.ref l)) ∧ l ∈ L ∧ KDict pr wd K O H l kvs ∧
    ∀ (o : HO), KDict pr wd K O (upd H l o) l lvs → hid O (upd H l o) = hid O H → Slots pr wd K O (upd H l o) σ (ρ.set i (.dk lvs)) L
  | _, _, _, _, .nil, _, e => by simp at e
  | _, _, _, 0, .un _, _, e => by simp at e
  | _, _, _, i + 1, .un s, nd, e => by
    obtain ⟨l, h1, h2, h3, h5⟩ := Slots.dk_at (i := i) s nd (by simpa using e)
    exact ⟨l, by simpa using h1, h2, h3, fun ys a b => .un (h5 ys a b)⟩
  | _, _, _, 0, .val _ _, _, e => by simp at e
  | _, _, _, i + 1, .val r s, nd, e => by
    obtain ⟨l, h1, h2, h3, h5⟩ := Slots.dk_at (i := i) s nd (by simpa using e)
    exact ⟨l, by simpa using h1, h2, h3, fun ys a b => .val (by rw [b]; exact r) (h5 ys a b)⟩
  | _, _, _, 0, .own _ _ _, _, e => by simp at e
  | _, _, _, i + 1, .own h r s, nd, e => by
    obtain ⟨l, h1, h2, h3, h5⟩ := Slots.dk_at (i := i) s (List.nodup_cons.mp nd).2 (by simpa using e)
    exact ⟨l, by simpa using h1, List.mem_cons_of_mem _ h2, h3, fun ys a b => .own ((upd_ne fun e => (List.nodup_cons.mp nd).1 (by rw [e]; exact h2)).trans h) (by rw [b]; exact r) (h5 ys a b)⟩
  | _, _, _, 0, .dic h s, nd, e => by simp at e
  | _, _, _, 0, .dk h s, nd, e => by
    simp at e
    subst e
    exact ⟨_, rfl, List.mem_cons_self, h, fun ys a b => .dk a (s.move (fun l hl => upd_ne fun e => (List.nodup_cons.mp nd).1 (by rw [← e]; exact hl)) (by rw [b]; exact Same.refl _))⟩
  | _, _, _, 0, .tw h s, nd, e => by simp at e
  | _, _, _, i + 1, .dic h s, nd, e => by
    obtain ⟨l, h1, h2, h3, h5⟩ := Slots.dk_at (i := i) s (List.nodup_cons.mp nd).2 (by simpa using e)
    exact ⟨l, by simpa using h1, List.mem_cons_of_mem _ h2, h3, fun ys a b => .dic (h.move (upd_ne fun e => (List.nodup_cons.mp nd).1 (by rw [e]; exact h2)) (by rw [b]; exact Same.refl _)) (h5 ys a b)⟩
  | _, _, _, i + 1, .dk h s, nd, e => by
    obtain ⟨l, h1, h2, h3, h5⟩ := Slots.dk_at (i := i) s (List.nodup_cons.mp nd).2 (by simpa using e)
    exact ⟨l, by simpa using h1, List.mem_cons_of_mem _ h2, h3, fun ys a b => .dk (h.move (upd_ne fun e => (List.nodup_cons.mp nd).1 (by rw [e]; exact h2)) (by rw [b]; exact Same.refl _)) (h5 ys a b)⟩
  | _, _, _, i + 1, .tw h s, nd, e => by
    obtain ⟨l, h1, h2, h3, h5⟩ := Slots.dk_at (i := i) s (List.nodup_cons.mp nd).2 (by simpa using e)
    exact ⟨l, by simpa using h1, List.mem_cons_of_mem _ h2, h3, fun ys a b => .tw (h.move (upd_ne fun e => (List.nodup_cons.mp nd).1 (by rw [e]; exact h2)) (by rw [b]; exact Same.refl _)) (h5 ys a b)⟩
theorem Env.dk_at {P : Hp} {L : List Addr} {n : Nat} {H : Hp} {σ : List (Option V)} {i : Nat} {kvs : List (L2.Key × D)} (E : Env c P L n H σ ρ) (h : ρ[i]? = some (.dk kvs)) : ∃ l, σ[i]? = some (some (.ref l)) ∧ l ∈ L ++ c.O ∧ KDict c.pr c.wd c.K (L ++ c.O) H l kvs ∧
    ∀ (o : HO) (lvs : List (L2.Key × D)), KDict c.pr c.wd c.K (L ++ c.O) (upd H l o) l lvs → Env c P L n (upd H l o) σ (ρ.set i (.dk lvs)) := by
  obtain ⟨Ls, sl, sb⟩ := E.slots
  have nd := sb.nodup E.nd
  obtain ⟨l, h1, h2, h3, _⟩ := sl.dk_at (lvs := kvs) nd h
  have lL := sb.subset h2
  have hm : l ∈ L ++ c.O := List.mem_append_left _ lL
  have hO : l ∉ c.O := (E.fresh l lL).2
  refine ⟨l, h1, hm, h3, fun o lvs hy => ?_⟩
  have bs : Same (hid c.B c.H0) (hid c.B (upd H l o)) := same_upd_old (E.fresh l lL).1 E.base
  obtain ⟨l', g1, g2, g3, g5⟩ := sl.dk_at (lvs := lvs) nd h
  rw [h1] at g1
  cases g1
  exact { nd := E.nd, fresh := E.fresh, slots := ⟨Ls, g5 o hy (hid_upd_in hm), sb⟩,
          lst := fun a ha => by
            by_cases e : a = l
            · exact ⟨_, by rw [e, upd_same]⟩
            · rw [upd_ne e]; exact E.lst a ha,
          bag := fun b q hb => (E.bag b q hb).move (fun o h => by rw [upd_ne fun e : b = l => hO (e ▸ (E.bO b q hb).1)]; exact h) fun o h => by rw [upd_ne fun e : q = l => hO (e ▸ (E.bO b q hb).2.1)]; exact h,
          base := bs, pers := by rw [hid_upd_in hm]; exact E.pers, bO := E.bO,
          al := fun o ho => by rw [upd_ne fun e : o = l => hO (e ▸ ho)]; exact E.al o ho }
/-! a dict as data -/
theorem we_dget1 (h : WE c td ρ n fun n1 x => ∃ kvs, x = .dct kvs ∧ WE c ty ρ n1 fun n2 y => ∃ k, keyK y = some k ∧ ∃ d, lookK kvs k = some d ∧ Φ n2 d) : WE c (tDGet td ty) ρ n Φ := fun P L σ H Q E q => by
  refine h P L σ H _ E fun x d n1 H1 s1 j1 r1 ⟨kvs, e, h1⟩ => ?_
  subst e
  have E1 := E.step s1 j1
  refine h1 P L σ H1 _ E1 fun y dy n2 H2 s2 j2 r2 ⟨k, hk, d, hl, kk⟩ => ?_
  have r3 := r1.mono (E1.sameLO s2)
  cases r3 with
  | dct hs rk =>
    obtain ⟨v, hv, rv⟩ := rk.look.1 d hl
    exact ⟨_, v, rfl, .inl ⟨_, k, same_rd same_hid hs, keyK_V r2 hk, hv.symm⟩, q v d n2 H2 (s1.trans s2) j2 rv kk⟩
theorem we_din (h : WE c ty ρ n fun n1 y => WE c td ρ n1 fun n2 x => ∃ kvs k, x = .dct kvs ∧ keyK y = some k ∧ Φ n2 (.bl (lookK kvs k).isSome)) : WE c (tDIn ty td) ρ n Φ := fun P L σ H Q E q => by
  refine h P L σ H _ E fun y dy n1 H1 s1 j1 r1 h1 => ?_
  have E1 := E.step s1 j1
  refine h1 P L σ H1 _ E1 fun x d n2 H2 s2 j2 r2 ⟨kvs, k, e, hk, kk⟩ => ?_
  subst e
  cases r2 with
  | dct hs rk =>
    refine ⟨_, _, rfl, .inl ⟨_, k, same_rd same_hid hs, keyK_V (r1.mono (E1.sameLO s2)) hk, rfl⟩, ?_⟩
    cases hl : lookK kvs k with
    | none => rw [rk.look.2 hl]; rw [hl] at kk; exact q _ _ n2 H2 (s1.trans s2) j2 (.bl _) kk
    | some d =>
      obtain ⟨v, hv, _⟩ := rk.look.1 d hl
      rw [hv]; rw [hl] at kk; exact q _ _ n2 H2 (s1.trans s2) j2 (.bl _) kk
theorem we_dnin (h : WE c ty ρ n fun n1 y => WE c td ρ n1 fun n2 x => ∃ kvs k, x = .dct kvs ∧ keyK y = some k ∧ Φ n2 (.bl (!(lookK kvs k).isSome))) : WE c (tDNotIn ty td) ρ n Φ := fun P L σ H Q E q => by
  refine h P L σ H _ E fun y dy n1 H1 s1 j1 r1 h1 => ?_
  have E1 := E.step s1 j1
  refine h1 P L σ H1 _ E1 fun x d n2 H2 s2 j2 r2 ⟨kvs, k, e, hk, kk⟩ => ?_
  subst e
  cases r2 with
  | dct hs rk =>
    refine ⟨_, _, rfl, .inl ⟨_, k, same_rd same_hid hs, keyK_V (r1.mono (E1.sameLO s2)) hk, rfl⟩, ?_⟩
    cases hl : lookK kvs k with
    | none => rw [rk.look.2 hl]; rw [hl] at kk; exact q _ _ n2 H2 (s1.trans s2) j2 (.bl _) kk
    | some d =>
      obtain ⟨v, hv, _⟩ := rk.look.1 d hl
      rw [hv]; rw [hl] at kk; exact q _ _ n2 H2 (s1.trans s2) j2 (.bl _) kk
theorem we_dget2 (h : WE c td ρ n fun n1 x => ∃ kvs, x = .dct kvs ∧ WE c ty ρ n1 fun n2 y => WE c tx ρ n2 fun n3 z => ∃ k, keyK y = some k ∧ Φ n3 ((lookK kvs k).getD z)) : WE c (tDGet2 td ty tx) ρ n Φ := fun P L σ H Q E q => by
  refine h P L σ H _ E fun x d n1 H1 s1 j1 r1 ⟨kvs, e, h1⟩ => ?_
  subst e
  have E1 := E.step s1 j1
  cases r1 with
  | dct hs0 rk0 =>
    have r1 : Rp c.K (hid (L ++ c.O) H1) (.ref _) (.dct kvs) := .dct hs0 rk0
    refine ⟨_, rfl, .inl ⟨_, same_rd same_hid hs0⟩, ?_⟩
    refine h1 P L σ H1 _ E1 fun y dy n2 H2 s2 j2 r2 h2 => ?_
    have E2 := E1.step s2 j2
    refine h2 P L σ H2 _ E2 fun z dz n3 H3 s3 j3 r3 ⟨k, hk, kk⟩ => ?_
    have r4 := (r1.mono (E1.sameLO s2)).mono (E2.sameLO s3)
    cases r4 with
    | dct hs rk =>
      refine ⟨_, .inl ⟨_, k, same_rd same_hid hs, keyK_V (r2.mono (E2.sameLO s3)) hk, rfl⟩, ?_⟩
      have s := (s1.trans s2).trans s3
      cases hl : lookK kvs k with
      | none => rw [rk.look.2 hl]; rw [hl] at kk; exact q _ _ n3 H3 s j3 r3 kk
      | some d =>
        obtain ⟨v, hv, rv⟩ := rk.look.1 d hl
        rw [hv]; rw [hl] at kk; exact q _ _ n3 H3 s j3 rv kk
section
variable {pr : Program} {wd : World} {K : PySem.W.Frag} {O : List Addr} {H : Hp} {σ : List (Option V)} {ρ : List SD} {L : List Addr}
theorem Slots.setK {l : Addr} {kvs : List (L2.Key × D)} (hx : KDict pr wd K O H l kvs) (hn : l ∉ L) : ∀ {σ : List (Option V)} {ρ : List SD} {L : List Addr} (i : Nat), i < ρ.length → Slots pr wd K O H σ ρ L →
    ∃ L1 L2 L3, Slots pr wd K O H (σ.set i (some (.ref l))) (ρ.set i (.dk kvs)) (L1 ++ l :: L2) ∧ L = L1 ++ L3 ∧ L2.Sublist L3
  | _, _, _, _, h, .nil => by simp at h
  | _, _, L, 0, _, .un s => ⟨[], L, L, .dk hx s, rfl, List.Sublist.refl _⟩
  | _, _, L, 0, _, .val _ s => ⟨[], L, L, .dk hx s, rfl, List.Sublist.refl _⟩
  | _, _, _ :: L, 0, _, .own _ _ s => ⟨[], L, _, .dk hx s, rfl, List.sublist_cons_self _ _⟩
  | _, _, _ :: L, 0, _, .dic _ s => ⟨[], L, _, .dk hx s, rfl, List.sublist_cons_self _ _⟩
  | _, _, _ :: L, 0, _, .dk _ s => ⟨[], L, _, .dk hx s, rfl, List.sublist_cons_self _ _⟩
  | _, _, _ :: L, 0, _, .tw _ s => ⟨[], L, _, .dk hx s, rfl, List.sublist_cons_self _ _⟩
  | _, _, _, i + 1, h, .un s => by
    obtain ⟨L1, L2, L3, h1, h2⟩ := Slots.setK hx hn i (by simpa using h) s
    exact ⟨L1, L2, L3, .un h1, h2⟩
  | _, _, _, i + 1, h, .val q s => by
    obtain ⟨L1, L2, L3, h1, h2⟩ := Slots.setK hx hn i (by simpa using h) s
    exact ⟨L1, L2, L3, .val q h1, h2⟩
  | _, _, _, i + 1, h, .own q r s => by
    obtain ⟨L1, L2, L3, h1, h2, h3⟩ := Slots.setK hx hn i (by simpa using h) s
    exact ⟨_ :: L1, L2, L3, .own q r h1, by rw [h2]; rfl, h3⟩
  | _, _, _, i + 1, h, .dic q s => by
    obtain ⟨L1, L2, L3, h1, h2, h3⟩ := Slots.setK hx hn i (by simpa using h) s
    exact ⟨_ :: L1, L2, L3, .dic q h1, by rw [h2]; rfl, h3⟩
  | _, _, _, i + 1, h, .dk q s => by
    obtain ⟨L1, L2, L3, h1, h2, h3⟩ := Slots.setK hx hn i (by simpa using h) s
    exact ⟨_ :: L1, L2, L3, .dk q h1, by rw [h2]; rfl, h3⟩
  | _, _, _, i + 1, h, .tw q s => by
    obtain ⟨L1, L2, L3, h1, h2, h3⟩ := Slots.setK hx hn i (by simpa using h) s
    exact ⟨_ :: L1, L2, L3, .tw q h1, by rw [h2]; rfl, h3⟩
end
/-! one's own -/
theorem ws_freezeK (i : Nat) {kvs : List (L2.Key × D)} (h : ρ[i]? = some (.dk kvs)) (k : WS c ts (ρ.set i (.val (.dct kvs))) n Ψ) : WS c ts ρ n Ψ := fun P L σ H Dn E A => by
  obtain ⟨L', E', _⟩ := E.freezeK h
  exact k P L' σ H Dn E' A
theorem wt_lookK (i : Nat) {Φ : Nat → Bool → Prop} {kvs : List (L2.Key × D)} (h : ρ[i]? = some (.dk kvs)) (k : WT c t (ρ.set i (.val (.dct kvs))) n Φ) : WT c t ρ n Φ := fun P L σ H Q E q => by
  obtain ⟨L', E', sub⟩ := E.freezeK h
  exact k P L' σ H Q E' fun b n1 H1 s1 j1 k1 => q b n1 H1 s1 j1 k1
theorem we_lookK (i : Nat) {kvs : List (L2.Key × D)} (h : ρ[i]? = some (.dk kvs)) (k : WE c te (ρ.set i (.val (.dct kvs))) n fun n1 d => scalar d = true ∧ Φ n1 d) : WE c te ρ n Φ := fun P L σ H Q E q => by
  obtain ⟨L', E', sub⟩ := E.freezeK h
  exact k P L' σ H Q E' fun v d n1 H1 s1 j1 r1 ⟨hs, k1⟩ => q v d n1 H1 s1 j1 (r1.scal hs) k1
/-- d[k], d one's own -/
theorem we_kget {i : Nat} {kvs : List (L2.Key × D)} (h0 : ρ[i]? = some (.dk kvs)) (h : WE c ty ρ n fun n2 y => ∃ k, keyK y = some k ∧ ∃ d, lookK kvs k = some d ∧ Φ n2 d) : WE c (tDGet (tVar i) ty) ρ n Φ := fun P L σ H Q E q => by
  obtain ⟨l, g1, _, _, _⟩ := E.dk_at h0
  refine ⟨.ref l, g1, ?_⟩
  refine h P L σ H _ E fun y dy n2 H2 s2 j2 r2 ⟨k, hk, d, hl, kk⟩ => ?_
  have E2 := E.step s2 j2
  obtain ⟨l', g1', _, ⟨xs, g2, g3⟩, _⟩ := E2.dk_at h0
  rw [g1] at g1'
  cases g1'
  obtain ⟨v, hv, rv⟩ := g3.look.1 d hl
  exact ⟨_, v, rfl, .inl ⟨_, k, .inl g2, keyK_V r2 hk, hv.symm⟩, q v d n2 H2 s2 j2 rv kk⟩
/-- d[k] = v, d one's own -/
theorem ws_kput {i : Nat} {kvs : List (L2.Key × D)} {tv : TE} (h0 : ρ[i]? = some (.dk kvs)) (hz : kvs.length < 16777216) (h : WE c tv ρ n fun n1 vd => WE c ty ρ n1 fun n2 y => ∃ k, keyK y = some k ∧ Ψ.nx n2 (ρ.set i (.dk (putKD kvs k vd)))) : WS c (sDPut (tVar i) ty tv) ρ n Ψ := fun P L σ H Dn E A => by
  refine h P L σ H _ E fun v vd n1 H1 s1 j1 r1 h1 => ?_
  have E1 := E.step s1 j1
  obtain ⟨l, g1, _, _, _⟩ := E1.dk_at h0
  refine ⟨.ref l, g1, ?_⟩
  refine h1 P L σ H1 _ E1 fun y dy n2 H2 s2 j2 r2 ⟨k, hk, kk⟩ => ?_
  have E2 := E1.step s2 j2
  obtain ⟨l', g1', gL, ⟨xs, g2, g3⟩, up⟩ := E2.dk_at h0
  rw [g1] at g1'
  cases g1'
  refine ⟨l, upd H2 l (.dK (putK xs k v)), rfl, .inl ⟨xs, k, g2, keyK_V r2 hk, by rw [g3.length, sizeLine_eq]; exact hz, rfl⟩, ?_⟩
  refine A.nx L n2 _ _ _ (up (.dK (putK xs k v)) (putKD kvs k vd) ⟨_, upd_same, ?_⟩) kk
  rw [hid_upd_in gL]
  exact g3.put (r1.mono (E1.sameLO s2))
theorem ws_knew {i : Nat} (hi : i < ρ.length) (k : Ψ.nx n (ρ.set i (.dk []))) : WS c (tAsg (tDNewK) (gName i)) ρ n Ψ := fun P L σ H Dn E A => by
  intro p hp
  have w := E.new hp
  have nin : p ∉ L ++ c.O := E.noO p hp
  have T := E.newT (o := .dK []) hp
  have E1 := E.step T.1 T.2.1
  have e0 : ∀ O, hid (p :: O) (upd H p (.dK [])) = hid O H := fun O => hid_new_in hp
  obtain ⟨Ls, sl0, sb⟩ := E.slots
  have sl : Slots c.pr c.wd c.K (p :: (L ++ c.O)) (upd H p (.dK [])) σ ρ Ls := sl0.move (fun l hl => upd_ne fun e => w.2.2 (e ▸ sb.subset hl)) (by rw [e0]; exact Same.refl _)
  have nd : KDict c.pr c.wd c.K (p :: (L ++ c.O)) (upd H p (.dK [])) p [] := ⟨[], upd_same, .nil⟩
  obtain ⟨L1, L2, L3, sl2, eL, sub⟩ := Slots.setK nd (fun q => w.2.2 (sb.subset q)) i hi sl
  have mv : ∃ Lp : List Addr, (L1 ++ p :: L2).Sublist Lp ∧ Lp.Perm (p :: L) := by
    rw [eL] at sb
    have h5 : (L1 ++ L2).Sublist L := (List.Sublist.append_left sub L1).trans sb
    exact ins_sub h5
  obtain ⟨Lp, sLp, pLp⟩ := mv
  have mem : ∀ a, a ∈ Lp ++ c.O ↔ a ∈ p :: (L ++ c.O) := fun a => by
    rw [show p :: (L ++ c.O) = (p :: L) ++ c.O from rfl, List.mem_append, List.mem_append, pLp.mem_iff]
  refine A.nx Lp n _ _ _ ?_ k
  exact { nd := pLp.nodup_iff.mpr (List.nodup_cons.mpr ⟨w.2.2, E.nd⟩),
          fresh := fun l hl => by
            rcases List.mem_cons.mp (pLp.mem_iff.mp hl) with q | q
            · subst q; exact ⟨w.1, w.2.1⟩
            · exact E.fresh l q,
          slots := ⟨_, sl2.move (fun _ _ => rfl) (same_hid_sub fun a ha => (mem a).mp ha), sLp⟩,
          lst := fun l hl => by
            rcases List.mem_cons.mp (pLp.mem_iff.mp hl) with q | q
            · subst q; exact ⟨_, upd_same⟩
            · exact E1.lst l q,
          bag := T.2.1,
          base := E1.base,
          pers := (E.pers.trans (by rw [e0]; exact Same.refl _)).trans (same_hid_sub fun a ha => (mem a).mp ha),
          bO := E.bO, al := E1.al }
/-- dict(d) -/
def rDictD (K : PySem.W.Frag) : List V → Hp → VK → Prop := fun vs H Q => ∃ (a : Addr) (xs : List (L2.Key × V)), vs = [.ref a] ∧ Rd H a (.dK xs) ∧ ∀ p, H p = none → Q (.ref p) (upd H p (.dK xs))
theorem rc_dict {K : PySem.W.Frag} {Φ : D → Prop} {kvs : List (L2.Key × D)} (k : Φ (.dct kvs)) : RCD K (rDictD K) [.dct kvs] Φ := fun O H xs Q rs no q => by
  obtain ⟨v, rfl, r⟩ := rs.one
  cases r with
  | dct hs rk => exact ⟨_, _, rfl, same_rd same_hid hs, fun p hp => q _ _ _ (same_upd_new hp) (.dct (.inl (hid_at (no p hp))) (rk.mono (rp_upd (K := K) hp))) k⟩
theorem x_dict {X : Cx} (K : PySem.W.Frag) : CallR X (.type "dict") (rDictD K) := by
  intro pins s σ H vs us Q I r h
  obtain ⟨a, xs, rfl, hr, q⟩ := h
  rw [Vals.ref1 r]
  exact d_copyOf I hr fun p s' hp I' => ⟨.ref p, _, I', rfl, q p hp⟩
end
end L3
/-! L3p: texts walked and searched, attributes within comprehensions, classes as callers see them. -/
namespace L3
open PySem L2
section
variable {X : Cx} (K : PySem.W.Frag)
theorem x_fld {e : Expr} {f : Str} {pos : Pos} {ta : TE} (h : PE X (.Attribute e f pos) (tFld X.K ta f)) (hK : X.K = K := by rfl) : PE X (.Attribute e f pos) (tFld K ta f) := hK ▸ h
theorem x_sfld {o value : Expr} {f : Str} {pos pos' : Pos} {ta tv : TE} (h : PS X (.Assign [.Attribute o f pos'] value pos) (sFld X.K ta tv f)) (hK : X.K = K := by rfl) : PS X (.Assign [.Attribute o f pos'] value pos) (sFld K ta tv f) := hK ▸ h
end
/-- a class as its callers see it -/
structure Mn (P : Program) (w : World) (K : PySem.W.Frag) (mg : Str → Option Value) (base : Heap) (x : Str) (k : Nat) (ps : List Str) (dv : List V) (dw : List Value) (S : SpecI) where
  C : Addr
  fI : Addr
  fd : FuncData
  M : Mk K C fI
  cl : Cls K C
  G : FnOk P w K mg base CX0 k fI fd ps (spI K C S)
  m : mg x = some (.ref C)
  b : Binds K fd ps dw
  v : Vals dv dw
section
variable {c : Ctx} {ρ : List SD} {n : Nat} {te : TE}
def signsD (z : Str) : List D := z.cps.toList.map fun u => D.str ⟨#[u]⟩
theorem it_s {z : Str} {P : Hp} : ItOk c (Its z) (signsD z) P where
  go := fun L n H σ ρ E i d hd => by
    unfold signsD at hd
    rw [List.getElem?_map] at hd
    have hi : i < z.cps.size := by
      refine Nat.lt_of_not_le fun q => ?_
      rw [List.getElem?_eq_none (by simpa using q)] at hd
      cases hd
    refine ⟨hi, fun x H' ⟨e, u, hu, hy⟩ => ?_⟩
    subst e; subst hy
    have hu' : z.cps.toList[i]? = some u := by rw [Array.getElem?_toList]; exact hu
    rw [hu'] at hd
    cases hd
    exact ⟨Same.refl _, .str _⟩
  stop := fun L n H σ ρ E i hi => by
    unfold signsD at hi
    show z.cps.size ≤ i
    simpa using hi
theorem wi_str {Φ : Nat → List D → Prop} (h : WE c te ρ n fun n1 d => ∃ z, d = .str z ∧ Φ n1 (signsD z)) : WI c (iStr te) ρ n Φ := fun P L σ H R E q => by
  refine h P L σ H _ E fun x d n1 H1 s1 j1 r1 ⟨z, e, k⟩ => ?_
  subst e
  cases r1
  exact ⟨z, rfl, q _ _ n1 H1 s1 j1 it_s k⟩
end
section
variable {K : PySem.W.Frag} {Φ : D → Prop}
theorem r2_sign {u : Nat} {z : Str} (k : Φ (.bl (decide (u ∈ z.cps.toList)))) : R2D K L2.rInS (.str ⟨#[u]⟩) (.str z) Φ := fun O H x y Q rx ry _ q => by
  cases rx; cases ry
  exact ⟨u, z, rfl, rfl, q _ _ H (Same.refl _) (.bl _) k⟩
theorem r2_notSign {u : Nat} {z : Str} (k : Φ (.bl (!decide (u ∈ z.cps.toList)))) : R2D K L2.rNotInS (.str ⟨#[u]⟩) (.str z) Φ := fun O H x y Q rx ry _ q => by
  cases rx; cases ry
  exact ⟨u, z, rfl, rfl, q _ _ H (Same.refl _) (.bl _) k⟩
end
end L3
/-! L3q: constants of the module, __init__ with defaults. -/
namespace L3
open PySem L2
section
variable {c : Ctx} {ρ : List SD} {n : Nat} {Φ : Nat → D → Prop}
theorem we_const {v : V} {d : D} (h : ∀ H, Rp c.K H v d) (k : Φ n d) : WE c (tC v) ρ n Φ := fun P L σ H Q E q => q v d n H (Same.refl _) E.bag (h _) k
end
section
variable {P : Program} {w : World} {K : PySem.W.Frag} {mg : Str → Option Value} {base : Heap} {C : Addr}
theorem fn_ID {x qual : Str} {st : Stmt} {fa : Addr} {fd : FuncData} {N ps : List Str} {k : Nat} {S : SpecI} {dvs : List V} (F : FunD K x qual (defArgs st) (defBody st) (defScope st) dvs [] fa fd) (sc : FnScope N ps (defScope st))
    (len : ∀ bag n ds Φ, S bag n ds Φ → ds.length + 1 = ps.length)
    (body : ∀ (cdv : Value) (A : Around) (outer : List PySem.Env) (s : Shared) (H : Hp) (E : XK) (O : List Addr) (bag : Option (Addr × Addr)) (n : Nat) (ds : List D) (Φ : Nat → List (Str × D) → Prop) (p dx : Addr), Room k (A.deeper (PyProof.Rows.envOfC qual (defScope st) s.heap.objs.size fa cdv)) → S bag n ds Φ →
      ∃ t, PSs (cxOf CX0 P w K mg base N qual (defScope st) fa cdv A outer s H E).nox (defBody st) t ∧ WN P w K O bag p C dx t (rho N (.adr p :: ds)) n [] Φ) :
    FnOk P w K mg base CX0 (k + 1) fa fd ps (spI K C S) := by
  refine F.ok sc (fun vs H Q E h => ?_) (fun cdv A outer s H vs Q E hr h => ?_)
  · obtain ⟨O, bag, n, ds, Φ, p, dx, ws, rfl, _, _, _, _, r, hS, _⟩ := h
    rw [List.length_cons, r.length]; exact len bag n ds Φ hS
  · obtain ⟨O, bag, n, ds, Φ, p, dx, ws, rfl, hp, pO, hb, hO, r, hS, q⟩ := h
    obtain ⟨t, ht, W⟩ := body cdv A outer s H E O bag n ds Φ p dx hr hS
    refine ⟨t, ht.nox, W H _ [] _ hp pO .nil ?_ fun σ' fs' ks' n' H' s' b' hp' hf' kk' => q fs' ks' n' H' s' b' hp' hf' kk'⟩
    have r' : RpAll K (hid (p :: O) H) (.ref p :: ws) (.adr p :: ds) := .cons (.adr p) r
    have e : L2.start N (.ref p :: ws) = (.ref p :: ws).map some ++ List.replicate (N.length - (D.adr p :: ds).length) none := by unfold L2.start; rw [r'.length]
    exact { nd := List.nodup_nil, fresh := (fun l hl => nomatch hl), slots := ⟨[], by rw [e]; exact slots_start r', List.Sublist.refl _⟩, lst := (fun l hl => nomatch hl), bag := fun b q e => (hb b q e).1, base := Same.refl _,
            pers := (fun _ _ e => nomatch e), bO := fun b q e => ⟨List.mem_cons_of_mem _ (hb b q e).2.1, List.mem_cons_of_mem _ (hb b q e).2.2.1, (hb b q e).2.2.2⟩,
            al := fun o ho => by
              rcases List.mem_cons.mp ho with z | z
              · rw [z, hp]; exact fun z => nomatch z
              · exact hO o z }
end
end L3
/-! L3r: enumerate over a tuple. -/
namespace PySem
open PySem.W PyProof.Rows
theorem l3_enum_new1 {v : Value} {o : Obj} {H : Heap → Prop} (B : Begins v o H) :
    Meets (Builtin.«enumerate.__new__» ⟨[.type "enumerate", v], []⟩) (fun _ R s => H s.heap ∧
      R (.ok (.ret (.ref (s.heap.push o).objs.size))) { s with heap := (s.heap.push o).push { cls := .type "enumerate", data := .fields #[.none, .bool false, .ref s.heap.objs.size, rawInt 0, .none, .none] } }) :=
  .of_wp fun prog w A R s h => by
    obtain ⟨hp, g, d, tk, os⟩ := s; obtain ⟨h1, h⟩ := h
    have hsub := sub_enumerate
    have q1 : ∀ {A' : Around} {E : Value → Shared → Prop} {Q : Value → Shared → Prop}, Q (.ref hp.objs.size) ⟨hp.push o, g, d, tk, os⟩ → wpAny (model prog w) A' (pyIter v) Q E ⟨hp, g, d, tk, os⟩ :=
      fun q => B.iter prog w _ _ ⟨hp, g, d, tk, os⟩ _ h1 q
    wp_walk using q1
    refine wpAny_stack_any fun st => wpAny_pure ?_
    split
    · rename_i c _ _ _ _ _
      cases (c == Value.type "enumerate")
      · wp_walk using q1
        exact ⟨_, rfl, h⟩
      · wp_walk using q1
        exact ⟨_, rfl, h⟩
    · wp_walk using q1
      exact ⟨_, rfl, h⟩
theorem l3_enum_call1 {prog : Program} {w : World} {A : Around} {E : Value → Shared → Prop} {s : Shared} {v : Value} {o : Obj} {H : Heap → Prop} {Q : Value → Shared → Prop} (B : Begins v o H) (h1 : H s.heap)
    (h : ∀ h', IsEnum h' (s.heap.objs.size + 1) s.heap.objs.size 0 .none → h'.get? s.heap.objs.size = some o → h'.objs.size = s.heap.objs.size + 2 →
      (∀ b o, s.heap.get? b = some o → h'.get? b = some o) → Q (.ref (s.heap.objs.size + 1)) { s with heap := h' }) :
    wpAny (model prog w) A (call (.type "enumerate") [v]) Q E s := by
  refine callType_new F.called_enumerate (by decide) (F.typeCall_enumerate_1 _) (F.newCall_enumerate_1 _) (fun obj => F.args_object_init_2 obj _) F.entry_enumerate_new
    (l3_enum_new1 B) ⟨h1, ?_⟩
  have hz : (s.heap.push o).objs.size = s.heap.objs.size + 1 := Heap.size_push ..
  show _ ∧ _
  rw [hz]
  have he : IsEnum ((s.heap.push o).push { cls := .type "enumerate", data := .fields #[.none, .bool false, .ref s.heap.objs.size, rawInt 0, .none, .none] }) (s.heap.objs.size + 1) s.heap.objs.size 0 .none := by
    have := Heap.get?_push_size (s.heap.push o) (o := { cls := .type "enumerate", data := .fields #[.none, .bool false, .ref s.heap.objs.size, rawInt 0, .none, .none] }) rfl
    rw [hz] at this; exact this
  refine ⟨⟨_, he, rfl⟩, h _ he (Heap.get?_push_of_some _ (Heap.get?_push_size _ B.free)) (by rw [Heap.size_push, hz]) fun b o x => Heap.get?_push_of_some _ (Heap.get?_push_of_some _ x)⟩
end PySem
/-! L3s: enumerate over a tuple. -/
namespace L2
open PySem PySem.Spec PyProof.Rows
def IteT (K : PySem.W.Frag) (a : Addr) (n0 : Nat) : It :=
  ⟨fun i H => ∃ (xs : List V) (x : V), SqT K H a xs ∧ xs.length = n0 ∧ xs[i]? = some x, fun i H v H' => ∃ T x, v = .ref T ∧ H T = none ∧ H' = upd H T (.tup [.int (i : Nat), x]) ∧ ∀ xs, SqT K H a xs → xs[i]? = some x, fun i H => ∃ xs : List V, SqT K H a xs ∧ xs.length = n0 ∧ n0 ≤ i⟩
theorem turn_enumT {P : Program} {w : World} {K : PySem.W.Frag} {elts : List Expr} {kk : Nat} {tpos : Pos} (a e it : Addr) (n0 : Nat) (hea : a ≠ it) :
    Turn P w K (.Tuple elts kk tpos) (IteT K a n0) [e, it] e (fun i h => (∃ old, IsEnum h e it ((i : Nat) : Int) old) ∧ h.IsTupleIter it a i ∧ e ≠ it ∧ a ≠ e ∧ i ≤ n0) where
  mem := by simp
  obj := fun i h st b hb => by
    obtain ⟨⟨old, he⟩, ⟨o, ho, hc, hd⟩, _⟩ := st
    have e' : b = e ∨ b = it := by simpa using hb
    rcases e' with z | z
    · rw [z]; exact ⟨_, he, fun v q => nomatch q⟩
    · rw [z]; exact ⟨o, ho, fun v q => by rw [hd] at q; cases q⟩
  keep := fun i h h' st k => let ⟨⟨old, he⟩, hi, hne⟩ := st; ⟨⟨old, k e (by simp) _ he⟩, hi.at fun o q => k it (by simp) o q, hne⟩
  item := by
    intro X hP hw hK hc i pins s σ H E I hf st hg
    subst hP hw hK
    obtain ⟨⟨old, he⟩, hit, hne, hae, hin⟩ := st
    obtain ⟨xs, x, hq, hxl, hx⟩ := hg
    obtain ⟨its, rv, p, hz⟩ := I.tuple hq
    obtain ⟨u, hu, ru⟩ := rv.get hx
    have hel : e < s.heap.objs.size := Heap.lt_size he
    have hil : it < s.heap.objs.size := by obtain ⟨_, q, _⟩ := hit; exact Heap.lt_size q
    have hlt : i < its.toArray.size := by
      have := (List.getElem?_eq_some_iff.mp hu).1
      simpa using this
    refine wpAny_pyNext_enum_itemC (Draws.tuple (show X.A.in1.handled = none from I.ok.hd hc) it a hea its.toArray) he ⟨hit, show s.heap.IsTuple a its.toArray from p⟩ hlt hne (by simp [hne, Ne.symm hae]) fun u' h' tk hP ho hit' hT hsz hk => ?_
    have eu : u' = u := by
      have h1 : its[i]? = some u' := by simpa using hP
      rw [hu] at h1
      exact (Option.some.inj h1).symm
    subst eu
    refine ⟨_, rfl, wpAny_letOwnedTupleGo_enum (s := { s with heap := h', toks := tk + 1 }) ho fun h'' he' sb => ?_⟩
    have hT2 : h''.get? s.heap.objs.size = some { cls := .type "tuple", data := .seq #[.int i tk, u'] } := (sb.2 _ (Nat.ne_of_gt hel)).trans hT
    have new : ObjOk X.prog X.w (upd H s.heap.objs.size (.tup [.int (i : Nat), x])) h'' s.heap.objs.size (.tup [.int (i : Nat), x]) :=
      ⟨by show 2 ≤ sizeLine; decide, [.int i tk, u'], .cons ⟨_, rfl⟩ (.cons ru .nil), ⟨_, hT2, rfl, _, rfl⟩⟩
    have I1 : Inv X pins σ (upd H s.heap.objs.size (.tup [.int (i : Nat), x])) { s with heap := h'', toks := tk + 1 } :=
      I.turnedNew (ch := [e, it]) (fun b ob hb q => (sb.2 b (fun z => hb (by simp [z]))).trans (hk b ob (fun z => hb (by simp [z])) (fun z => hb (by simp [z])) q)) hf (Nat.le_refl _) new
    refine ⟨.ref s.heap.objs.size, _, I1, rfl, ⟨_, x, rfl, I.hok.fresh (Nat.le_refl _), rfl, fun ys hy => by rw [I.tuple_inj hy hq]; exact hx⟩, ⟨⟨u', ?_⟩, hit'.1.at fun o q => (sb.2 it (Ne.symm hne)).trans q, hne, hae, by have := (List.getElem?_eq_some_iff.mp hx).1; omega⟩, fun b hb => ?_⟩
    · have e1 : ((i + 1 : Nat) : Int) = (i : Int) + 1 := by omega
      rw [e1]; exact he'
    · have hb' : b < s.heap.objs.size := by
        have e' : b = e ∨ b = it := by simpa using hb
        rcases e' with z | z
        · rw [z]; exact hel
        · rw [z]; exact hil
      rw [upd_ne (Nat.ne_of_lt hb')]
      exact (hf b hb).1
  done := by
    intro X hP hw hK hc i pins s σ H E I hf st hg
    subst hP hw hK
    obtain ⟨⟨old, he⟩, hit, hne, hae, hin⟩ := st
    obtain ⟨xs, hq, hxl, hx⟩ := hg
    obtain ⟨its, rv, p, hz⟩ := I.tuple hq
    obtain ⟨f0, f1, f2, f3, f4, f5⟩ := hf it (by simp)
    have hl := rv.length
    have ei : i = its.toArray.size := by simp; omega
    subst ei
    exact wpAny_pyNext_enum_endD (Draws.tuple (show X.A.in1.handled = none from I.ok.hd hc) it a hea its.toArray) he ⟨hit, show s.heap.IsTuple a its.toArray from p⟩ fun h' eb => ⟨rfl, I.turned (t' := s.toks) (fun b o hb q => eb b o hb q) f0 f1 f3 f4 f5⟩
  self := fun A i s Q E st h => let ⟨⟨_, he⟩, _⟩ := st; wpAny_pyIter_enum he h
def iEnumT (K : PySem.W.Frag) (ta : TA) : TI := fun σ H R => ta σ H fun vs H1 => ∃ a xs, vs = [.ref a] ∧ SqT K H1 a xs ∧ R (IteT K a xs.length) H1
theorem pi_enumT {X : Cx} {e : Expr} {ta : TA} {p pos tpos : Pos} {elts : List Expr} {kk : Nat} (hg : Gl X "enumerate") (hm : X.mg "enumerate" = none) (ha : PA X [e] ta) (hs : starEach [e] X.env = [(false, eval e X.env)] := by rfl) :
    PI X (.Tuple elts kk tpos) (.Call (.Name "enumerate" p) [e] [] pos) (iEnumT X.K ta) := by
  refine ⟨fun pins s σ H R I h => ?_⟩
  refine Call_ (ld_blt I hg hm boot_enumerate (PyProof.Rows.callWith_type1 (thn (ha.run pos pins s σ H _ I h) fun us s1 ⟨vs, H1, I1, r1, q1⟩ => ?_) hs rfl))
  obtain ⟨a, xs, ex, hq, q⟩ := q1
  subst ex
  cases r1 with
  | cons r rr =>
    cases rr
    cases r
    obtain ⟨its, rv, p', hz⟩ := I1.tuple hq
    have ipt : s1.heap.IsTuple a its.toArray := p'
    have hal : a < s1.heap.objs.size := by
      obtain ⟨o, ho, _⟩ := ipt
      exact Heap.lt_size ho
    refine l3_enum_call1 (begins_tuple a its.toArray) ipt fun h' he hit hsz hk => wpAny_pyIter_enum he ?_
    have I2 : Inv X pins σ H1 { s1 with heap := h' } := I1.kept (t' := s1.toks) hk
    refine ⟨s1.heap.objs.size + 1, [s1.heap.objs.size + 1, s1.heap.objs.size], _, _, H1, rfl, I2, turn_enumT a (s1.heap.objs.size + 1) s1.heap.objs.size xs.length (Nat.ne_of_lt hal), ⟨⟨.none, he⟩, ⟨_, hit, rfl, rfl⟩, Nat.succ_ne_self _, Nat.ne_of_lt (Nat.lt_succ_of_lt hal), Nat.zero_le _⟩, fun b hb => ?_, q⟩
    have e' : b = s1.heap.objs.size + 1 ∨ b = s1.heap.objs.size := by simpa using hb
    have hle : s1.heap.objs.size ≤ b := by
      rcases e' with z | z
      · rw [z]; exact Nat.le_add_right _ _
      · rw [z]; exact Nat.le_refl _
    exact I1.fpOk hle (I1.hok.fresh hle)
end L2
namespace L3
open PySem L2
theorem x_enumT {X : Cx} (K : PySem.W.Frag) {e : Expr} {ta : TA} {p pos tpos : Pos} {elts : List Expr} {kk : Nat} (hg : Gl X "enumerate") (hm : X.mg "enumerate" = none) (ha : PA X [e] ta) (hs : starEach [e] X.env = [(false, eval e X.env)] := by rfl) (hK : X.K = K := by rfl) :
    PI X (.Tuple elts kk tpos) (.Call (.Name "enumerate" p) [e] [] pos) (iEnumT K ta) := hK ▸ pi_enumT hg hm ha hs
section
variable {c : Ctx} {ρ : List SD} {n : Nat} {as : TA}
theorem it_eT {a : Addr} {xs : List V} {ds : List D} {P : Hp} (hs : SqT c.K P a xs) (hr : RpAll c.K P xs ds) : ItOk c (IteT c.K a xs.length) (enumD 0 ds) P where
  go := fun L n H σ ρ E i d hd => by
    obtain ⟨e, h1, h2⟩ := enumD_get hd
    obtain ⟨v, g1, g2⟩ := hr.get' h1
    subst h2
    refine ⟨⟨xs, v, same_t E.perR hs, rfl, g1⟩, fun x H' ⟨T, y, e1, e2, e3, hy⟩ => ?_⟩
    subst e1; subst e3
    have e4 := hy xs (same_t E.perR hs)
    rw [g1] at e4
    cases e4
    have sm := same_upd_new (o := .tup [.int (i : Nat), v]) e2
    refine ⟨sm, .tup (.inl (.inl (hid_at (E.noO T e2)))) (.cons ?_ (.cons ((g2.mono E.pers).mono (same_hid_of sm)) .nil))⟩
    have e5 : (0 : Int) + (i : Int) = (i : Int) := by omega
    rw [e5]
    exact .int _
  stop := fun L n H σ ρ E i hi => by
    rw [enumD_len] at hi
    exact ⟨xs, same_t E.perR hs, rfl, by rw [hr.length]; exact hi⟩
theorem wi_enumT {Φ : Nat → List D → Prop} (h : WA c as ρ n fun n1 ds => ∃ xs, ds = [.tup xs] ∧ Φ n1 (enumD 0 xs)) : WI c (iEnumT c.K as) ρ n Φ := fun P L σ H R E q => by
  refine h P L σ H _ E fun vs ds n1 H1 s1 j1 r1 ⟨xs, e, k⟩ => ?_
  subst e
  cases r1 with
  | cons r rr =>
    cases rr
    cases r with
    | tup hs ha => exact ⟨_, _, rfl, same_t same_hid hs, q _ _ n1 H1 s1 j1 (it_eT hs ha) k⟩
end
end L3
/-! L3t: a tuple whose head is a dict of one's own; more of own lists and dicts. -/
namespace L3
open PySem L2
theorem nd_rp {pr : Program} {wd : World} {K : PySem.W.Frag} {O O' : List Addr} {H : Hp} {l : Addr} {kvs : List (D × D)} (h : NDict pr wd K O H l kvs) (b : l ∉ O') (a : Same (hid O H) (hid O' H)) : Rp K (hid O' H) (.ref l) (.dcn pr wd kvs) := by
  obtain ⟨xs, h1, h2, h3⟩ := h
  exact .dcn (by rw [hid_out b]; exact h1) h2 ((RpNs.of h3).mono a)
theorem nd_of_rp {pr : Program} {wd : World} {K : PySem.W.Frag} {O : List Addr} {H : Hp} {x : V} {kvs : List (D × D)} (h : Rp K (hid O H) x (.dcn pr wd kvs)) : ∃ l, x = .ref l ∧ NDict pr wd K O H l kvs := by
  cases h with
  | dcn h1 h2 h3 => exact ⟨_, rfl, _, (hid_some.mp h1).2, h2, h3.pair⟩
section
variable {c : Ctx} {ρ : List SD} {n : Nat} {ta tb te td ty tx : TE} {t u : TT} {as : TA} {Φ : Nat → D → Prop} {Ψ : Out} {ts us : TS}
/-! ### results that hang on no dict -/
theorem rd_drop {O : List Addr} {H : Hp} {l a : Addr} {x : HO} (hn : ¬ Rd H l x) (h : Rd (hid O H) a x) : Rd (hid (l :: O) H) a x := by
  have ne : a ≠ l := fun e => hn (by rw [← e]; exact same_rd same_hid h)
  have e : hid (l :: O) H a = hid O H a := by
    unfold hid
    by_cases q : a ∈ O
    · rw [if_pos q, if_pos (List.mem_cons_of_mem _ q)]
    · rw [if_neg q, if_neg (by simp [ne, q])]
  unfold Rd
  rw [e]; exact h
def NoSeq (H : Hp) (l : Addr) : Prop := ∀ xs, ¬ Rd H l (.lst xs) ∧ ¬ Rd H l (.tup xs)
theorem noSeq_ext {H : Hp} {l : Addr} {φ : Heap → Prop} (h : H l = some (.ext φ)) : NoSeq H l := fun xs => by
  constructor <;> rintro (q | ⟨o, q⟩) <;> (rw [h] at q; cases q)
theorem noSeq_dK {H : Hp} {l : Addr} {kvs : List (L2.Key × V)} (h : H l = some (.dK kvs)) : NoSeq H l := fun xs => by
  constructor <;> rintro (q | ⟨o, q⟩) <;> (rw [h] at q; cases q)
mutual
theorem rp_drop {K : PySem.W.Frag} {O : List Addr} {H : Hp} {l : Addr} (hl : NoSeq H l) : ∀ (d : D) (v : V), Rp K (hid O H) v d → plain d = true → Rp K (hid (l :: O) H) v d
  | .non, _, h, _ => by cases h; exact .non
  | .bl b, _, h, _ => by cases h; exact .bl b
  | .int i, _, h, _ => by cases h; exact .int i
  | .str x, _, h, _ => by cases h; exact .str x
  | .lst xs, _, h, p => by
    cases h with
    | lst h r => exact .lst (rd_drop (hl _).1 h) (rp_drops hl xs _ r p)
  | .tup xs, _, h, p => by
    cases h with
    | tup h r =>
      refine .tup ?_ (rp_drops hl xs _ r p)
      rcases h with h | h
      · exact .inl (rd_drop (hl _).2 h)
      · exact .inr h
  | .obj _ _, _, _, p => by cases p
  | .adr _, _, _, p => by cases p
  | .ty _, _, _, p => by cases p
  | .dct _, _, _, p => by cases p
  | .dcn _ _ _, _, _, p => by cases p
theorem rp_drops {K : PySem.W.Frag} {O : List Addr} {H : Hp} {l : Addr} (hl : NoSeq H l) : ∀ (ds : List D) (vs : List V), RpAll K (hid O H) vs ds → plainAll ds = true → RpAll K (hid (l :: O) H) vs ds
  | [], _, h, _ => by cases h; exact .nil
  | x :: xs, _, h, p => by
    cases h with
    | cons h r =>
      have p' : (plain x && plainAll xs) = true := p
      rw [Bool.and_eq_true] at p'
      exact .cons (rp_drop hl x _ h p'.1) (rp_drops hl xs _ r p'.2)
end
theorem rp_back {K : PySem.W.Frag} {L L' O : List Addr} {H : Hp} {l : Addr} {v : V} {d : D} (hl : NoSeq H l) (hL : ∀ a ∈ L, a = l ∨ a ∈ L') (r : Rp K (hid (L' ++ O) H) v d) (p : plain d = true) : Rp K (hid (L ++ O) H) v d :=
  (rp_drop hl d v r p).mono (same_hid_sub fun a ha => by
    rcases List.mem_append.mp ha with q | q
    · rcases hL a q with e | e
      · rw [e]; exact List.mem_cons_self
      · exact List.mem_cons_of_mem _ (List.mem_append_left _ e)
    · exact List.mem_cons_of_mem _ (List.mem_append_right _ q))
theorem Slots.freezeW {pr : Program} {wd : World} {K : PySem.W.Frag} {O : List Addr} {H : Hp} {l : Addr} {kvs : List (D × D)} {ds : List D} : ∀ {σ : List (Option V)} {ρ : List SD} {L : List Addr} {i : Nat}, Slots pr wd K O H σ ρ L → ρ[i]? = some (.tw l kvs ds) → ∃ L1 L2 t, L = L1 ++ l :: L2 ∧ TDict pr wd K O H t l kvs ds ∧
    ∀ O' , Same (hid O H) (hid O' H) → l ∉ O' → Slots pr wd K O' H σ (ρ.set i (.val (.tup (.dcn pr wd kvs :: ds)))) (L1 ++ L2)
  | _, _, _, _, .nil, e => by simp at e
  | _, _, _, 0, .un _, e => by simp at e
  | _, _, _, i + 1, .un s, e => by
    obtain ⟨L1, L2, t, h1, h2, h4⟩ := Slots.freezeW (i := i) s (by simpa using e)
    exact ⟨L1, L2, t, h1, h2, fun O' a b => .un (h4 O' a b)⟩
  | _, _, _, 0, .val _ _, e => by simp at e
  | _, _, _, i + 1, .val r s, e => by
    obtain ⟨L1, L2, t, h1, h2, h4⟩ := Slots.freezeW (i := i) s (by simpa using e)
    exact ⟨L1, L2, t, h1, h2, fun O' a b => .val (r.mono a) (h4 O' a b)⟩
  | _, _, _, 0, .own h r s, e => by simp at e
  | _, _, _, i + 1, .own h r s, e => by
    obtain ⟨L1, L2, t, h1, h2, h4⟩ := Slots.freezeW (i := i) s (by simpa using e)
    exact ⟨_ :: L1, L2, t, by rw [h1]; rfl, h2, fun O' a b => .own h (r.mono a) (h4 O' a b)⟩
  | _, _, _, 0, .dic _ _, e => by simp at e
  | _, _, _, 0, .dk _ s, e => by simp at e
  | _, _, _, 0, .tw ⟨vs, h, r, n⟩ s, e => by
    simp at e
    obtain ⟨rfl, rfl, rfl⟩ := e
    exact ⟨[], _, _, rfl, ⟨vs, h, r, n⟩, fun O' a b => .val (.tup (same_t a h) (.cons (nd_rp n b a) (r.mono a))) (s.move (fun _ _ => rfl) a)⟩
  | _, _, _, i + 1, .dic h s, e => by
    obtain ⟨L1, L2, t, h1, h2, h4⟩ := Slots.freezeW (i := i) s (by simpa using e)
    exact ⟨_ :: L1, L2, t, by rw [h1]; rfl, h2, fun O' a b => .dic (h.move rfl a) (h4 O' a b)⟩
  | _, _, _, i + 1, .dk h s, e => by
    obtain ⟨L1, L2, t, h1, h2, h4⟩ := Slots.freezeW (i := i) s (by simpa using e)
    exact ⟨_ :: L1, L2, t, by rw [h1]; rfl, h2, fun O' a b => .dk (h.move rfl a) (h4 O' a b)⟩
  | _, _, _, i + 1, .tw h s, e => by
    obtain ⟨L1, L2, t, h1, h2, h4⟩ := Slots.freezeW (i := i) s (by simpa using e)
    exact ⟨_ :: L1, L2, t, by rw [h1]; rfl, h2, fun O' a b => .tw (h.move rfl a) (h4 O' a b)⟩
theorem Env.freezeW {P : Hp} {L : List Addr} {n : Nat} {H : Hp} {σ : List (Option V)} {i : Nat} {l : Addr} {kvs : List (D × D)} {ds : List D} (E : Env c P L n H σ ρ) (h : ρ[i]? = some (.tw l kvs ds)) : ∃ L', Env c P L' n H σ (ρ.set i (.val (.tup (.dcn c.pr c.wd kvs :: ds)))) ∧ L'.Sublist L ∧ (∀ a ∈ L, a = l ∨ a ∈ L') ∧ l ∈ L ∧ ∃ xs, H l = some (.ext (DictBare c.pr c.wd xs l)) := by
  obtain ⟨Ls, sl, sb⟩ := E.slots
  obtain ⟨L1, L2, t, h1, ⟨vs, q1, q2, xs, h2, q3⟩, h4⟩ := sl.freezeW h
  have lL : l ∈ L := sb.subset (by rw [h1]; simp)
  have sub : (L.erase l).Sublist L := List.erase_sublist
  have nl : l ∉ L.erase l := E.nd.not_mem_erase
  have sb2 : (L1 ++ L2).Sublist (L.erase l) := by
    have nd := sb.nodup E.nd
    rw [h1] at nd
    have n1 : l ∉ L1 := fun q => by
      have := (List.nodup_append.mp nd).2.2 l q l List.mem_cons_self
      exact this rfl
    have q : (Ls.erase l).Sublist (L.erase l) := sb.erase l
    rw [h1, List.erase_append_right _ n1, List.erase_cons_head] at q
    exact q
  have nO : l ∉ (L.erase l) ++ c.O := fun q => by
    rcases List.mem_append.mp q with q | q
    · exact nl q
    · exact (E.fresh l lL).2 q
  have se : Same (hid (L ++ c.O) H) (hid ((L.erase l) ++ c.O) H) := same_hid_sub fun a ha => by
    rcases List.mem_append.mp ha with q | q
    · exact List.mem_append_left _ (sub.subset q)
    · exact List.mem_append_right _ q
  exact ⟨L.erase l, { nd := sub.nodup E.nd, fresh := fun l hl => E.fresh l (sub.subset hl), slots := ⟨_, h4 _ se nO, sb2⟩, lst := fun l hl => E.lst l (sub.subset hl), base := E.base, pers := E.pers.trans se, bO := E.bO, al := E.al, bag := E.bag }, sub, fun a ha => by by_cases q : a = l; exact .inl q; exact .inr ((List.mem_erase_of_ne q).mpr ha), lL, _, h2⟩
theorem Env.freezeK2 {P : Hp} {L : List Addr} {n : Nat} {H : Hp} {σ : List (Option V)} {i : Nat} {kvs : List (L2.Key × D)} (E : Env c P L n H σ ρ) (h : ρ[i]? = some (.dk kvs)) : ∃ L', Env c P L' n H σ (ρ.set i (.val (.dct kvs))) ∧ L'.Sublist L ∧ ∃ l xs, (∀ a ∈ L, a = l ∨ a ∈ L') ∧ l ∈ L ∧ H l = some (.dK xs) := by
  obtain ⟨Ls, sl, sb⟩ := E.slots
  obtain ⟨L1, l, L2, xs, h1, h2, h3, h4⟩ := sl.freezeK h
  have lL : l ∈ L := sb.subset (by rw [h1]; simp)
  have sub : (L.erase l).Sublist L := List.erase_sublist
  have nl : l ∉ L.erase l := E.nd.not_mem_erase
  have sb2 : (L1 ++ L2).Sublist (L.erase l) := by
    have nd := sb.nodup E.nd
    rw [h1] at nd
    have n1 : l ∉ L1 := fun q => by
      have := (List.nodup_append.mp nd).2.2 l q l List.mem_cons_self
      exact this rfl
    have q : (Ls.erase l).Sublist (L.erase l) := sb.erase l
    rw [h1, List.erase_append_right _ n1, List.erase_cons_head] at q
    exact q
  have nO : l ∉ (L.erase l) ++ c.O := fun q => by
    rcases List.mem_append.mp q with q | q
    · exact nl q
    · exact (E.fresh l lL).2 q
  have se : Same (hid (L ++ c.O) H) (hid ((L.erase l) ++ c.O) H) := same_hid_sub fun a ha => by
    rcases List.mem_append.mp ha with q | q
    · exact List.mem_append_left _ (sub.subset q)
    · exact List.mem_append_right _ q
  exact ⟨L.erase l, { nd := sub.nodup E.nd, fresh := fun l hl => E.fresh l (sub.subset hl), slots := ⟨_, h4 _ se nO, sb2⟩, lst := fun l hl => E.lst l (sub.subset hl), base := E.base, pers := E.pers.trans se, bO := E.bO, al := E.al, bag := E.bag }, sub, l, xs, fun a ha => by by_cases q : a = l; exact .inl q; exact .inr ((List.mem_erase_of_ne q).mpr ha), lL, h2⟩
theorem Slots.tw_at {pr : Program} {wd : World} {K : PySem.W.Frag} {O : List Addr} {H : Hp} {l : Addr} {kvs lvs : List (D × D)} {ds : List D} : ∀ {σ : List (Option V)} {ρ : List SD} {L : List Addr} {i : Nat}, Slots pr wd K O H σ ρ L → L.Nodup → ρ[i]? = some (.tw l kvs ds) → ∃ t, σ[i]? = some (some (.ref t)) ∧ l ∈ L ∧ TDict pr wd K O H t l kvs ds ∧
    ∀ (o : HO), NDict pr wd K O (upd H l o) l lvs → hid O (upd H l o) = hid O H → Slots pr wd K O (upd H l o) σ (ρ.set i (.tw l lvs ds)) L
  | _, _, _, _, .nil, _, e => by simp at e
  | _, _, _, 0, .un _, _, e => by simp at e
  | _, _, _, i + 1, .un s, nd, e => by
    obtain ⟨t, h1, h2, h3, h5⟩ := Slots.tw_at (i := i) s nd (by simpa using e)
    exact ⟨t, by simpa using h1, h2, h3, fun ys a b => .un (h5 ys a b)⟩
  | _, _, _, 0, .val _ _, _, e => by simp at e
  | _, _, _, i + 1, .val r s, nd, e => by
    obtain ⟨t, h1, h2, h3, h5⟩ := Slots.tw_at (i := i) s nd (by simpa using e)
    exact ⟨t, by simpa using h1, h2, h3, fun ys a b => .val (by rw [b]; exact r) (h5 ys a b)⟩
  | _, _, _, 0, .own _ _ _, _, e => by simp at e
  | _, _, _, i + 1, .own h r s, nd, e => by
    obtain ⟨t, h1, h2, h3, h5⟩ := Slots.tw_at (i := i) s (List.nodup_cons.mp nd).2 (by simpa using e)
    exact ⟨t, by simpa using h1, List.mem_cons_of_mem _ h2, h3, fun ys a b => .own ((upd_ne fun e => (List.nodup_cons.mp nd).1 (by rw [e]; exact h2)).trans h) (by rw [b]; exact r) (h5 ys a b)⟩
  | _, _, _, 0, .dic h s, nd, e => by simp at e
  | _, _, _, 0, .dk h s, nd, e => by simp at e
  | _, _, _, 0, .tw ⟨vs, h, r, q⟩ s, nd, e => by
    simp at e
    obtain ⟨rfl, rfl, rfl⟩ := e
    exact ⟨_, rfl, List.mem_cons_self, ⟨vs, h, r, q⟩, fun ys a b => .tw ⟨vs, by rw [b]; exact h, by rw [b]; exact r, a⟩ (s.move (fun l hl => upd_ne fun e => (List.nodup_cons.mp nd).1 (by rw [← e]; exact hl)) (by rw [b]; exact Same.refl _))⟩
  | _, _, _, i + 1, .dic h s, nd, e => by
    obtain ⟨t, h1, h2, h3, h5⟩ := Slots.tw_at (i := i) s (List.nodup_cons.mp nd).2 (by simpa using e)
    exact ⟨t, by simpa using h1, List.mem_cons_of_mem _ h2, h3, fun ys a b => .dic (h.move (upd_ne fun e => (List.nodup_cons.mp nd).1 (by rw [e]; exact h2)) (by rw [b]; exact Same.refl _)) (h5 ys a b)⟩
  | _, _, _, i + 1, .dk h s, nd, e => by
    obtain ⟨t, h1, h2, h3, h5⟩ := Slots.tw_at (i := i) s (List.nodup_cons.mp nd).2 (by simpa using e)
    exact ⟨t, by simpa using h1, List.mem_cons_of_mem _ h2, h3, fun ys a b => .dk (h.move (upd_ne fun e => (List.nodup_cons.mp nd).1 (by rw [e]; exact h2)) (by rw [b]; exact Same.refl _)) (h5 ys a b)⟩
  | _, _, _, i + 1, .tw h s, nd, e => by
    obtain ⟨t, h1, h2, h3, h5⟩ := Slots.tw_at (i := i) s (List.nodup_cons.mp nd).2 (by simpa using e)
    exact ⟨t, by simpa using h1, List.mem_cons_of_mem _ h2, h3, fun ys a b => .tw (h.move (upd_ne fun e => (List.nodup_cons.mp nd).1 (by rw [e]; exact h2)) (by rw [b]; exact Same.refl _)) (h5 ys a b)⟩
section
variable {pr : Program} {wd : World} {K : PySem.W.Frag} {O : List Addr} {H : Hp} {σ : List (Option V)} {ρ : List SD} {L : List Addr}
theorem Slots.setW {t l : Addr} {kvs : List (D × D)} {ds : List D} (hx : TDict pr wd K O H t l kvs ds) (hn : l ∉ L) : ∀ {σ : List (Option V)} {ρ : List SD} {L : List Addr} (i : Nat), i < ρ.length → Slots pr wd K O H σ ρ L →
    ∃ L1 L2 L3, Slots pr wd K O H (σ.set i (some (.ref t))) (ρ.set i (.tw l kvs ds)) (L1 ++ l :: L2) ∧ L = L1 ++ L3 ∧ L2.Sublist L3
  | _, _, _, _, h, .nil => by simp at h
  | _, _, L, 0, _, .un s => ⟨[], L, L, .tw hx s, rfl, List.Sublist.refl _⟩
  | _, _, L, 0, _, .val _ s => ⟨[], L, L, .tw hx s, rfl, List.Sublist.refl _⟩
  | _, _, _ :: L, 0, _, .own _ _ s => ⟨[], L, _, .tw hx s, rfl, List.sublist_cons_self _ _⟩
  | _, _, _ :: L, 0, _, .dic _ s => ⟨[], L, _, .tw hx s, rfl, List.sublist_cons_self _ _⟩
  | _, _, _ :: L, 0, _, .dk _ s => ⟨[], L, _, .tw hx s, rfl, List.sublist_cons_self _ _⟩
  | _, _, _ :: L, 0, _, .tw _ s => ⟨[], L, _, .tw hx s, rfl, List.sublist_cons_self _ _⟩
  | _, _, _, i + 1, h, .un s => by
    obtain ⟨L1, L2, L3, h1, h2⟩ := Slots.setW hx hn i (by simpa using h) s
    exact ⟨L1, L2, L3, .un h1, h2⟩
  | _, _, _, i + 1, h, .val q s => by
    obtain ⟨L1, L2, L3, h1, h2⟩ := Slots.setW hx hn i (by simpa using h) s
    exact ⟨L1, L2, L3, .val q h1, h2⟩
  | _, _, _, i + 1, h, .own q r s => by
    obtain ⟨L1, L2, L3, h1, h2, h3⟩ := Slots.setW hx hn i (by simpa using h) s
    exact ⟨_ :: L1, L2, L3, .own q r h1, by rw [h2]; rfl, h3⟩
  | _, _, _, i + 1, h, .dic q s => by
    obtain ⟨L1, L2, L3, h1, h2, h3⟩ := Slots.setW hx hn i (by simpa using h) s
    exact ⟨_ :: L1, L2, L3, .dic q h1, by rw [h2]; rfl, h3⟩
  | _, _, _, i + 1, h, .dk q s => by
    obtain ⟨L1, L2, L3, h1, h2, h3⟩ := Slots.setW hx hn i (by simpa using h) s
    exact ⟨_ :: L1, L2, L3, .dk q h1, by rw [h2]; rfl, h3⟩
  | _, _, _, i + 1, h, .tw q s => by
    obtain ⟨L1, L2, L3, h1, h2, h3⟩ := Slots.setW hx hn i (by simpa using h) s
    exact ⟨_ :: L1, L2, L3, .tw q h1, by rw [h2]; rfl, h3⟩
end
theorem Env.tw_at {P : Hp} {L : List Addr} {n : Nat} {H : Hp} {σ : List (Option V)} {i : Nat} {l : Addr} {kvs : List (D × D)} {ds : List D} (E : Env c P L n H σ ρ) (h : ρ[i]? = some (.tw l kvs ds)) : ∃ t, σ[i]? = some (some (.ref t)) ∧ l ∈ L ++ c.O ∧ TDict c.pr c.wd c.K (L ++ c.O) H t l kvs ds ∧
    ∀ (o : HO) (lvs : List (D × D)), NDict c.pr c.wd c.K (L ++ c.O) (upd H l o) l lvs → Env c P L n (upd H l o) σ (ρ.set i (.tw l lvs ds)) := by
  obtain ⟨Ls, sl, sb⟩ := E.slots
  have nd := sb.nodup E.nd
  obtain ⟨t, h1, h2, h3, _⟩ := sl.tw_at (lvs := kvs) nd h
  have lL := sb.subset h2
  have hm : l ∈ L ++ c.O := List.mem_append_left _ lL
  have hO : l ∉ c.O := (E.fresh l lL).2
  refine ⟨t, h1, hm, h3, fun o lvs hy => ?_⟩
  have bs : Same (hid c.B c.H0) (hid c.B (upd H l o)) := same_upd_old (E.fresh l lL).1 E.base
  obtain ⟨t', g1, g2, g3, g5⟩ := sl.tw_at (lvs := lvs) nd h
  exact { nd := E.nd, fresh := E.fresh, slots := ⟨Ls, g5 o hy (hid_upd_in hm), sb⟩,
          lst := fun a ha => by
            by_cases e : a = l
            · exact ⟨_, by rw [e, upd_same]⟩
            · rw [upd_ne e]; exact E.lst a ha,
          bag := fun b q hb => (E.bag b q hb).move (fun o h => by rw [upd_ne fun e : b = l => hO (e ▸ (E.bO b q hb).1)]; exact h) fun o h => by rw [upd_ne fun e : q = l => hO (e ▸ (E.bO b q hb).2.1)]; exact h,
          base := bs, pers := by rw [hid_upd_in hm]; exact E.pers, bO := E.bO,
          al := fun o ho => by rw [upd_ne fun e : o = l => hO (e ▸ ho)]; exact E.al o ho }
/-! ### a tuple whose head is a dict of one's own -/
theorem ws_freezeW (i : Nat) {l : Addr} {kvs : List (D × D)} {ds : List D} (h : ρ[i]? = some (.tw l kvs ds)) (k : WS c ts (ρ.set i (.val (.tup (.dcn c.pr c.wd kvs :: ds)))) n Ψ) : WS c ts ρ n Ψ := fun P L σ H Dn E A => by
  obtain ⟨L', E', _⟩ := E.freezeW h
  exact k P L' σ H Dn E' A
theorem wt_lookW (i : Nat) {Φ : Nat → Bool → Prop} {l : Addr} {kvs : List (D × D)} {ds : List D} (h : ρ[i]? = some (.tw l kvs ds)) (k : WT c t (ρ.set i (.val (.tup (.dcn c.pr c.wd kvs :: ds)))) n Φ) : WT c t ρ n Φ := fun P L σ H Q E q => by
  obtain ⟨L', E', sub, _⟩ := E.freezeW h
  exact k P L' σ H Q E' fun b n1 H1 s1 j1 k1 => q b n1 H1 s1 j1 k1
theorem we_lookW (i : Nat) {l : Addr} {kvs : List (D × D)} {ds : List D} (h : ρ[i]? = some (.tw l kvs ds)) (k : WE c te (ρ.set i (.val (.tup (.dcn c.pr c.wd kvs :: ds)))) n fun n1 d => plain d = true ∧ Φ n1 d) : WE c te ρ n Φ := fun P L σ H Q E q => by
  obtain ⟨L', E', sub, hL, lL, xs, hx⟩ := E.freezeW h
  refine k P L' σ H Q E' fun v d n1 H1 s1 j1 r1 ⟨hs, k1⟩ => q v d n1 H1 s1 j1 ?_ k1
  have hB : l ∉ c.B := E.notB lL
  have h1 : H1 l = some (.ext (DictBare c.pr c.wd xs l)) := (hid_some.mp (s1 l _ (hid_some.mpr ⟨hB, hx⟩))).2
  exact rp_back (noSeq_ext h1) hL r1 hs
/-- an own dict looked at; what comes out hangs on no dict -/
theorem we_lookKp (i : Nat) {kvs : List (L2.Key × D)} (h : ρ[i]? = some (.dk kvs)) (k : WE c te (ρ.set i (.val (.dct kvs))) n fun n1 d => plain d = true ∧ Φ n1 d) : WE c te ρ n Φ := fun P L σ H Q E q => by
  obtain ⟨L', E', sub, l, xs, hL, lL, hx⟩ := E.freezeK2 h
  refine k P L' σ H Q E' fun v d n1 H1 s1 j1 r1 ⟨hs, k1⟩ => q v d n1 H1 s1 j1 ?_ k1
  have hB : l ∉ c.B := E.notB lL
  have h1 : H1 l = some (.dK xs) := (hid_some.mp (s1 l _ (hid_some.mpr ⟨hB, hx⟩))).2
  exact rp_back (noSeq_dK h1) hL r1 hs
/-- world[0][k] = e -/
theorem ws_wput {i : Nat} {l : Addr} {kvs : List (D × D)} {ds : List D} {tk : TE} (h0 : ρ[i]? = some (.tw l kvs ds)) (hz : kvs.length < 16777216) (h : WE c te ρ n fun n1 vd => WE c tk ρ n1 fun n2 kd => keyD kd = true ∧ Ψ.nx n2 (ρ.set i (.tw l (putD kvs kd vd) ds))) : WS c (tAsg te (gSub (tOp (rIx c.K) (tVar i) (tC (.int 0))) tk (rSetN c.pr c.wd c.K))) ρ n Ψ := fun P L σ H Dn E A => by
  refine h P L σ H _ E fun y vd n1 H1 s1 j1 r1 h1 => ?_
  have E1 := E.step s1 j1
  obtain ⟨t, g1, gL, ⟨vs, g2, _, _⟩, _⟩ := E1.tw_at h0
  refine ⟨.ref t, g1, .inr (.inl ⟨t, _, 0, .ref l, rfl, rfl, same_t same_hid g2, atI_nat (xs := V.ref l :: vs) (j := 0) rfl, ?_⟩)⟩
  refine h1 P L σ H1 _ E1 fun z kd n2 H2 s2 j2 r2 ⟨hk, k⟩ => ?_
  have E2 := E1.step s2 j2
  obtain ⟨t', g1', gL', ⟨vs', g2', g3', g4'⟩, up⟩ := E2.tw_at h0
  refine ⟨L ++ c.O, l, kvs, kd, vd, rfl, gL, g4', r2, hk, r1.mono (E1.sameLO s2), by rw [sizeLine_eq]; exact hz, fun φ hN => ?_⟩
  exact A.nx L n2 _ σ _ (up _ _ hN) k
theorem Env.newAny {P : Hp} {L : List Addr} {n : Nat} {H : Hp} {σ : List (Option V)} {D : Addr} {o : HO} (E : Env c P L n H σ ρ) (hD : H D = none) : Env c P (D :: L) n (upd H D o) σ ρ := by
  have w := E.new hD
  obtain ⟨Ls, sl, sb⟩ := E.slots
  have e0 : hid ((D :: L) ++ c.O) (upd H D o) = hid (L ++ c.O) H := hid_new_in hD
  exact { nd := List.nodup_cons.mpr ⟨w.2.2, E.nd⟩,
          fresh := fun l hl => by
            rcases List.mem_cons.mp hl with e | e
            · subst e; exact ⟨w.1, w.2.1⟩
            · exact E.fresh l e,
          slots := ⟨Ls, sl.move (fun l hl => upd_ne fun e => w.2.2 (e ▸ sb.subset hl)) (by rw [e0]; exact Same.refl _), sb.cons _⟩,
          lst := fun l hl => by
            rcases List.mem_cons.mp hl with e | e
            · subst e; exact ⟨_, upd_same⟩
            · rw [upd_ne fun q : l = D => w.2.2 (q ▸ e)]; exact E.lst l e,
          bag := (E.newT hD).2.1,
          base := E.base.trans (E.newT hD).1,
          pers := by rw [e0]; exact E.pers,
          bO := E.bO,
          al := fun o ho => by rw [upd_ne fun e : o = D => w.2.1 (e ▸ ho)]; exact E.al o ho }
/-- ({}, ..) -/
theorem ws_wnew {i : Nat} (hi : i < ρ.length) (h : WA c as ρ n fun n1 ds => ds.length < 16777216 ∧ ∀ l, Ψ.nx n1 (ρ.set i (.tw l [] ds))) : WS c (tAsg (tTup (tCons (tDNewN c.pr c.wd) as)) (gName i)) ρ n Ψ := fun P L σ H Dn E A => by
  intro p hp hs
  have E1 := E.newAny (o := .ext (DictBare c.pr c.wd [] p)) hp
  have w := E.new hp
  obtain ⟨Ls, sl0, sb⟩ := E.slots
  have nLs : p ∉ Ls := fun q => w.2.2 (sb.subset q)
  refine h P (p :: L) σ _ _ E1 fun vs ds n2 H2 s2 j2 r2 ⟨hz, k⟩ => ?_
  refine ⟨by show vs.length + 1 ≤ _; rw [r2.length, sizeLine_eq]; omega, fun t ht => ?_⟩
  have E2 := E1.step s2 j2
  have hp2 : H2 p = some (.ext (DictBare c.pr c.wd [] p)) := (hid_some.mp (s2 p _ (hid_some.mpr ⟨E1.notB List.mem_cons_self, upd_same⟩))).2
  have T := E2.newT (o := .tup (.ref p :: vs)) ht
  have E3 := E2.step T.1 T.2.1
  obtain ⟨Ls3, sl3, sb3⟩ := E3.slots
  have eL := sl3.inj sl0
  subst eL
  have npt : p ≠ t := fun e => by rw [← e, hp2] at ht; cases ht
  have td : TDict c.pr c.wd c.K ((p :: L) ++ c.O) (upd H2 t (.tup (.ref p :: vs))) t p [] ds := by
    refine ⟨vs, .inl (.inl ?_), r2.mono (rp_upd (K := c.K) ht), [], by rw [upd_ne npt]; exact hp2, hs, .nil⟩
    exact hid_at T.2.2
  obtain ⟨L1, L2, L3, sl4, eL, sub⟩ := Slots.setW td nLs i hi sl3
  have mv : ∃ Lp : List Addr, (L1 ++ p :: L2).Sublist Lp ∧ Lp.Perm (p :: L) := by
    rw [eL] at sb
    have h5 : (L1 ++ L2).Sublist L := (List.Sublist.append_left sub L1).trans sb
    exact ins_sub h5
  obtain ⟨Lp, sLp, pLp⟩ := mv
  have mem : ∀ a, a ∈ Lp ++ c.O ↔ a ∈ (p :: L) ++ c.O := fun a => by
    rw [List.mem_append, List.mem_append, pLp.mem_iff]
  refine A.nx Lp n2 _ _ _ ?_ (k p)
  exact { nd := pLp.nodup_iff.mpr E3.nd,
          fresh := fun l hl => E3.fresh l (pLp.mem_iff.mp hl),
          slots := ⟨_, sl4.move (fun _ _ => rfl) (same_hid_sub fun a ha => (mem a).mp ha), sLp⟩,
          lst := fun l hl => E3.lst l (pLp.mem_iff.mp hl),
          bag := E3.bag,
          base := E3.base,
          pers := E3.pers.trans (same_hid_sub fun a ha => (mem a).mp ha),
          bO := E3.bO, al := E3.al }
/-! ### dicts whose keys are tuples as data -/
theorem r2_ixN {pr : Program} {wd : World} {K : PySem.W.Frag} {Φ : D → Prop} {kvs : List (D × D)} {kd f : D} (hk : keyD kd = true) (hl : lookD kvs kd = some f) (k : Φ f) : R2D K (rIxN pr wd K) (.dcn pr wd kvs) kd Φ := fun O H x y Q rx ry _ q => by
  obtain ⟨l, rfl, nd⟩ := nd_of_rp rx
  exact ⟨O, l, kvs, kd, f, rfl, nd, ry, hk, hl, fun u ru => q u f H (Same.refl _) ru k⟩
def rInN (pr : Program) (wd : World) (K : PySem.W.Frag) : R2 := fun x y H Q => ∃ (O : List Addr) (l : Addr) (kvs : List (D × D)) (kd : D), y = .ref l ∧ NDict pr wd K O H l kvs ∧ Rp K (hid O H) x kd ∧ keyD kd = true ∧ Q (.bl (lookD kvs kd).isSome) H
theorem r2_inN {pr : Program} {wd : World} {K : PySem.W.Frag} {Φ : D → Prop} {kvs : List (D × D)} {kd : D} (hk : keyD kd = true) (k : Φ (.bl (lookD kvs kd).isSome)) : R2D K (rInN pr wd K) kd (.dcn pr wd kvs) Φ := fun O H x y Q rx ry _ q => by
  obtain ⟨l, rfl, nd⟩ := nd_of_rp ry
  exact ⟨O, l, kvs, kd, rfl, nd, rx, hk, q _ _ H (Same.refl _) (.bl _) k⟩
theorem x_inN {X : Cx} (pr : Program) (wd : World) (K : PySem.W.Frag) (hu : X.A.units + 65 < cLine) (hp : X.prog = pr := by rfl) (hw : X.w = wd := by rfl) (hK : X.K = K := by rfl) : OpR X (compareOp .In) (rInN pr wd K) := by
  subst hp; subst hw; subst hK
  intro pins s σ H x y v u Q I rx ry h
  obtain ⟨O, l, kvs, kd, rfl, ⟨xs, n1, n2, n3⟩, rk, hk, q⟩ := h
  cases ry
  obtain ⟨a, ea, eb, is⟩ := key_is I rk rx hk
  subst eb
  have dd := nd_of I n1 n3
  refine wpAny_in_heap (by show X.A.in1.units + 8 < cLine; have : X.A.in1.units = X.A.units + 1 := rfl; omega) is n2 dd ?_
  have e : (lookD kvs kd).isSome = (atKey xs (nk kd)).isSome := by
    rcases ent_look (kd := kd) n3 with ⟨e1, e2⟩ | ⟨v', a', u', w, e1, e2, _⟩
    · rw [e1, e2]; rfl
    · rw [e1, e2]; rfl
  rw [← e]
  exact ⟨.bl _, H, I.tok _, rfl, q⟩
/-! ### dicts of ints and texts -/
theorem we_dnewK (k : Φ n (.dct [])) : WE c tDNewK ρ n Φ := fun P L σ H Q E q => by
  intro p hp
  have z := E.newT (o := .dK []) hp
  exact q _ _ n _ z.1 z.2.1 (.dct (.inl (hid_at z.2.2)) .nil) k
theorem we_kcopy {i : Nat} {kvs : List (L2.Key × D)} (h0 : ρ[i]? = some (.dk kvs)) (k : Φ n (.dct kvs)) : WE c (tCB (rDictD c.K) (tCons (tVar i) tNil)) ρ n Φ := fun P L σ H Q E q => by
  obtain ⟨l, g1, _, ⟨xs, g2, g3⟩, _⟩ := E.dk_at h0
  refine ⟨.ref l, g1, l, xs, rfl, .inl g2, fun p hp => ?_⟩
  have z := E.newT (o := .dK xs) hp
  exact q _ _ n _ z.1 z.2.1 (.dct (.inl (hid_at z.2.2)) (g3.mono (rp_upd (K := c.K) hp))) k
theorem rc_dictK {K : PySem.W.Frag} {Φ : D → Prop} {kvs : List (L2.Key × D)} (k : Φ (.dct kvs)) : RCD K (rDictD K) [.dct kvs] Φ := rc_dict k
/-- two dicts of the same -/
def rEqK (K : PySem.W.Frag) (neg : Bool) : R2 := fun x y H Q => ∃ (O : List Addr) (kvs lvs : List (L2.Key × D)), Rp K (hid O H) x (.dct kvs) ∧ Rp K (hid O H) y (.dct lvs) ∧ kvs.length = lvs.length ∧ (∀ kv ∈ kvs, ∃ d, lookK lvs kv.1 = some d ∧ fit kv.2 = true ∧ fit d = true ∧ eqD kv.2 d = true) ∧ Q (.bl (!neg)) H
theorem r2_eqK {K : PySem.W.Frag} {neg : Bool} {Φ : D → Prop} {kvs lvs : List (L2.Key × D)} (hl : kvs.length = lvs.length) (h : ∀ kv ∈ kvs, ∃ d, lookK lvs kv.1 = some d ∧ fit kv.2 = true ∧ fit d = true ∧ eqD kv.2 d = true) (k : Φ (.bl (!neg))) : R2D K (rEqK K neg) (.dct kvs) (.dct lvs) Φ := fun O H x y Q rx ry _ q =>
  ⟨O, kvs, lvs, rx, ry, hl, h, q _ _ H (Same.refl _) (.bl _) k⟩
theorem hitsD {X : Cx} {pins : List (Addr × Obj)} {σ : L2.St} {H : Hp} {s : Shared} (I : Inv X pins σ H s) {A : Around} (hu : A.in1.units + 64 < cLine) {O : List Addr} {ls : List (L2.Key × V)} {lvs : List (L2.Key × D)} (rl : RpKs X.K (hid O H) ls lvs) {vb : List (L2.Key × Value)} (rb : KV ls vb) :
    ∀ {ks : List (L2.Key × V)} {kvs : List (L2.Key × D)}, RpKs X.K (hid O H) ks kvs → ∀ {va : List (L2.Key × Value)}, KV ks va → (∀ kv ∈ kvs, ∃ d, lookK lvs kv.1 = some d ∧ fit kv.2 = true ∧ fit d = true ∧ eqD kv.2 d = true) → PySem.W.KeqHits A.in1 s vb va true
  | _, _, .nil, _, ra, _ => by cases ra; exact .nil
  | _, _, .cons (x := x) h r, _, ra, hp => by
    cases ra with
    | @cons _ q _ qs g t =>
      obtain ⟨g1, g2⟩ := g
      obtain ⟨d, e1, e2, e3, e4⟩ := hp _ List.mem_cons_self
      obtain ⟨u, hu1, ru⟩ := rl.look.1 d e1
      have rr : RelO (some u) (valueAt vb x) := by rw [← hu1]; exact rb.val x
      obtain ⟨y, hy, ry⟩ := rr.some_of
      obtain ⟨key, v⟩ := q
      have g1' : x = key := g1
      subst g1'
      obtain ⟨as, r1⟩ := Dp.reads I _ _ v (Dp.mono same_hid (h.dp (fit_p e2))) g2
      obtain ⟨bs, r2⟩ := Dp.reads I _ _ y (Dp.mono same_hid (ru.dp (fit_p e3))) ry
      have z := PySem.W.keq_at (A := A) r1 r2 (fit_s e2) (fit_s e3) hu
      rw [show PyData.eqv (dpy _) (dpy d) = true from e4] at z
      exact .hit (b := true) hy z (hitsD I hu rl rb r t fun kv hk => hp kv (List.mem_cons_of_mem _ hk))
theorem x_neK {X : Cx} (K : PySem.W.Frag) (hu : X.A.units + 65 < cLine) (hK : X.K = K := by rfl) : OpR X (compareOp .NotEq) (rEqK K true) := by
  subst hK
  intro pins s σ H x y v u Q I rx ry h
  obtain ⟨O, kvs, lvs, hx, hy, hl, hh, q⟩ := h
  cases hx with
  | @dct a ks _ ha ra =>
    cases hy with
    | @dct b ls _ hb rb =>
      cases rx
      cases ry
      obtain ⟨_, ya, va, va', da⟩ := (same_rd same_hid ha).ok I.hok
      obtain ⟨_, yb, vb, vb', db⟩ := (same_rd same_hid hb).ok I.hok
      refine PySem.W.keq_ne (knd := mixKind X.prog X.w) (r := true) ya yb da db (by omega) (fun _ => hitsD (A := X.A) I (by show X.A.units + 1 + 64 < cLine; omega) rb vb' ra va' hh) ?_
      have e : va.length = vb.length := by rw [← va'.length, ← vb'.length, ra.length, rb.length]; exact hl
      rw [show (va.length == vb.length && true) = true from by rw [e]; simp]
      exact ⟨.bl false, H, I, rfl, q⟩
/-! ### own lists -/
theorem rp_scals {K : PySem.W.Frag} {H H' : Hp} : ∀ {xs : List V} {es : List D}, RpAll K H xs es → (∀ e ∈ es, scalar e = true) → RpAll K H' xs es
  | _, _, .nil, _ => .nil
  | _, _, .cons h r, hs => .cons (h.scal (hs _ List.mem_cons_self)) (rp_scals r fun e he => hs e (List.mem_cons_of_mem _ he))
/-- a new list of scalars, made while an own list is looked at -/
theorem wf_look (i : Nat) {ds : List D} {Φ : Nat → List D → Prop} (h : ρ[i]? = some (.own ds)) (k : WF c te (ρ.set i (.val (.lst ds))) n fun n1 es => (∀ e ∈ es, scalar e = true) ∧ Φ n1 es) : WF c te ρ n Φ := fun P L σ H Q E q => by
  obtain ⟨L', E', sub⟩ := E.freeze h
  refine k P L' σ H Q E' fun p xs es n1 H1 s1 hp hp1 r1 j1 ⟨hs, k1⟩ => q p xs es n1 H1 s1 hp hp1 ?_ j1 k1
  exact rp_scals r1 hs
/-- x.append(y.pop(e)) -/
theorem ws_appendPop {i j : Nat} {ds es : List D} (h0 : ρ[i]? = some (.own ds)) (h1 : ρ[j]? = some (.own es)) (hij : i ≠ j) (h : WE c te ρ n fun n1 d => ∃ (k : Nat) (y : D), d = .int (k : Int) ∧ es[k]? = some y ∧ k < 2 ^ 62 ∧ ds.length < sizeLine ∧ Ψ.nx n1 ((ρ.set j (.own (es.eraseIdx k))).set i (.own (ds ++ [y])))) :
    WS c (tDrop (tBM c.K "list" rAppend (tVar i) (tCons (tBM c.K "list" rPopAt (tVar j) (tCons te tNil)) tNil))) ρ n Ψ := fun P L σ H Dn E A => by
  obtain ⟨l, xs, a1, a2, a3, a4⟩ := E.own_at h0
  obtain ⟨m, ys, b1, b2, b3, b4⟩ := E.own_at h1
  refine ⟨.ref l, a1, .inl ⟨rfl, xs, .inl (.inl a2)⟩, ?_⟩
  refine ⟨.ref m, b1, .inl ⟨rfl, ys, .inl (.inl b2)⟩, ?_⟩
  refine h P L σ H _ E fun v d n1 H1 s1 j1 r1 ⟨k, y, e, hk, hk2, hz, kk⟩ => ?_
  subst e
  cases r1
  have E1 := E.step s1 j1
  obtain ⟨m', ys', c1, c2, c3, c4⟩ := E1.own_at h1
  rw [b1] at c1
  cases c1
  obtain ⟨u, hu, ru⟩ := c3.get' hk
  have hlt : k < ys'.length := (List.getElem?_eq_some_iff.mp hu).1
  refine ⟨m, ys', (k : Int), k, u, rfl, rfl, c2, by omega, by omega, ?_, hu, ?_⟩
  · exact (ixN_seq (n := ys'.length) (i := (k : Int)) (j := k) (by unfold ixN; rw [if_pos (by omega), if_pos (by omega)]; simp)).1
  have E2 := (c4 (ys'.eraseIdx k) (es.eraseIdx k) (c3.eraseIdx k)).1
  have Ep := (E1.pers'.own_at h1)
  obtain ⟨m'', ys'', f1, f2, f3, f4⟩ := Ep
  rw [b1] at f1
  cases f1
  have E2p := (f4 (ys'.eraseIdx k) (es.eraseIdx k) (c3.eraseIdx k)).1.pers
  have h0' : (ρ.set j (.own (es.eraseIdx k)))[i]? = some (.own ds) := by rw [List.getElem?_set_ne (Ne.symm hij)]; exact h0
  obtain ⟨l', xs', g1, g2, g3, g4⟩ := E2.own_at h0'
  rw [a1] at g1
  cases g1
  refine ⟨l, xs', u, rfl, rfl, g2, by rw [g3.length]; exact hz, ?_⟩
  exact A.nx L n1 _ σ _ (g4 (xs' ++ [u]) (ds ++ [y]) (g3.append (.cons (ru.mono E2p) .nil))).1 kk
/-- x[i] = e, x one's own -/
theorem ws_lset {i : Nat} {ds : List D} {tk : TE} (h0 : ρ[i]? = some (.own ds)) (h : WE c te ρ n fun n1 vd => WE c tk ρ n1 fun n2 kd => ∃ k : Nat, kd = .int (k : Int) ∧ k < ds.length ∧ Ψ.nx n2 (ρ.set i (.own (ds.set k vd)))) : WS c (tAsg te (gSub (tVar i) tk rSetL)) ρ n Ψ := fun P L σ H Dn E A => by
  refine h P L σ H _ E fun y vd n1 H1 s1 j1 r1 h1 => ?_
  have E1 := E.step s1 j1
  obtain ⟨l, xs, a1, a2, a3, a4⟩ := E1.own_at h0
  refine ⟨.ref l, a1, ?_⟩
  refine h1 P L σ H1 _ E1 fun z kd n2 H2 s2 j2 r2 ⟨k, e, hk, kk⟩ => ?_
  subst e
  cases r2
  have E2 := E1.step s2 j2
  obtain ⟨l', xs', g1, g2, g3, g4⟩ := E2.own_at h0
  rw [a1] at g1
  cases g1
  refine ⟨l, xs', (k : Int), k, rfl, rfl, g2, ?_, ?_⟩
  · rw [g3.length]
    unfold ixN
    rw [if_pos (by omega), if_pos (by omega)]; simp
  · exact A.nx L n2 _ σ _ (g4 _ _ (g3.set (r1.mono (E1.sameLO s2)) k)).1 kk
end
end L3
/-! L3u: sorted(d, reverse=True) of a dict with int keys. -/
namespace L3
open PySem L2 PySem.W PyProof.Rows PySem.Calls PyProof.V
section
variable {prog : Program} {w : World} {A : Around} {E : Value → Shared → Prop} {s : Shared}
theorem sorted_dictR {ns : List Int} {b : Bool} {d : Addr} {es : Array DictEntry} {ep : Nat} {Q : Value → Shared → Prop} (hh : A.handled = none) (lo : (d == sysModules) = false) (hD : s.heap.DictRaw d es ep)
    (hi : IntsAre (es.toList.map (·.key)) ns) (hn : es.size ≤ sizeLine)
    (h : ∀ (h1 h2 : Heap) (tk : Nat) (out : Array Value) (c : Nat) (ns' : List Int), (∀ b o, s.heap.get? b = some o → h1.get? b = some o) → (∀ b o, h1.get? b = some o → h2.get? b = some o) → h2.get? h1.objs.size = some { cls := .type "list", data := .seq out c } → IntsAre out.toList ns' → ns'.Perm ns → Q (.ref h1.objs.size) { s with heap := h2, toks := tk }) :
    wpAny (model prog w) A (call (.builtin "sorted") [.ref d] [(Str.ofString "reverse", .bool b)]) Q E s := by
  refine call_function_entry_kw kind_sorted plain_sorted entry_sorted (PyProof.Rows.args_sorted_rev _ _) ?_
  unfold Builtin.«sorted»
  refine wpAny_bind (m := checkCount "sorted" 1 1 _) (wpAny_pure ?_)
  refine wpAny_bind (kdu_collect (A := A.in1) (KdlSrc.rawDict lo) hh hD hn fun h' tk acc hkp hacc => ?_)
  have hl : acc.toList = es.toList.map (·.key) := by
    apply List.ext_getElem?
    intro j
    by_cases hj : j < acc.size
    · obtain ⟨hi, hv⟩ := hacc.2 j acc[j] (by simp [hj])
      rw [Array.getElem?_toList, Array.getElem?_eq_getElem hj, List.getElem?_map, Array.getElem?_toList, Array.getElem?_eq_getElem hi, hv]; rfl
    · have hs : acc.size = es.size := hacc.1
      rw [Array.getElem?_toList, Array.getElem?_eq_none (by omega), List.getElem?_map, Array.getElem?_toList, Array.getElem?_eq_none (by omega)]; rfl
  have hz : acc.toList.length ≤ sizeLine := by rw [Array.length_toList, hacc.1]; exact hn
  refine wpAny_bind (wpAny_newList ?_ hz)
  rw [hl] at hz ⊢
  generalize hvs : es.toList.map (·.key) = vs at hi hz ⊢
  have ho : (h'.push { cls := .type "list", data := .seq vs.toArray }).get? h'.objs.size = some (seqObj "list" vs.toArray 0) := Heap.get?_push_size _ rfl
  refine wpAny_bind (wpAny_holding (wpAny_call_entry_kw slot_list_sort ⟨_, ho, rfl⟩ entry_list_sort ?_ (PyProof.Rows.args_list_sort_rev _ _)))
  refine SrtR.list_sort_ordR (s := { s with heap := h'.push { cls := .type "list", data := .seq vs.toArray }, toks := tk }) SrtO.swo_int ho hz (fun h2 => SrtO.ints_sortable hi h2) fun out h1 h2 => ?_
  obtain ⟨ns', k1, k2, _⟩ := SrtR.ints_outR hi h1 h2
  obtain ⟨c, hc⟩ := sortedHeap_at (out := (if b = true then out.toArray.reverse else out.toArray)) ho
  refine ⟨_, rfl, ?_⟩
  refine wpAny_pure ⟨_, rfl, h h' _ tk _ c ns' hkp ?_ hc k1 k2⟩
  intro b o q
  rw [sortedHeap_old (Nat.ne_of_lt (Heap.lt_size q)) (Nat.lt_of_lt_of_le (Heap.lt_size q) (by rw [Heap.size_push]; exact Nat.le_succ _))]
  exact Heap.get?_push_of_some _ q
end
def rSortKR (K : PySem.W.Frag) : List V → List V → Hp → VK → Prop := fun vs zs H Q => ∃ (O : List Addr) (v : V) (kvs : List (L2.Key × D)) (ns : List Int), vs = [v] ∧ zs = [.bl true] ∧ Rp K (hid O H) v (.dct kvs) ∧ kvs.map (·.1) = ns.map Sum.inl ∧
  ∀ (ns' : List Int) (p : Addr), ns'.Perm ns → H p = none → Q (.ref p) (upd H p (.lst (ns'.map V.int)))
theorem x_sortKR {X : Cx} (K : PySem.W.Frag) (hcalm : X.calm = true := by rfl) (hK : X.K = K := by rfl) : CallRK X (.builtin "sorted") [Str.ofString "reverse"] (rSortKR K) := by
  subst hK
  intro pins s σ H vs zs us ws Q I r rz h
  obtain ⟨O, v, kvs, ns, rfl, rfl, hx, hk, q⟩ := h
  cases hx with
  | @dct a xs _ hs rk =>
    obtain rfl := Vals.ref1 r
    obtain ⟨w1, rfl, e1⟩ := L2.vals1 rz
    obtain rfl : w1 = Value.bool true := e1
    obtain ⟨z, ya, va, va', da⟩ := (same_rd same_hid hs).ok I.hok
    obtain ⟨oa, es, ep, hoa, hcl, hda, hka, hpa, _⟩ := da
    have hlen : va.length = es.size := by rw [← hpa.length]; exact Array.length_toList
    have hll : xs.length = va.length := va'.length
    have hn : es.size ≤ sizeLine := by rw [← hlen, ← hll]; exact z
    have hi : IntsAre (es.toList.map (·.key)) ns := by
      have key : ∀ {es : List DictEntry} {va : List (L2.Key × Value)}, Pairs (mixKind X.prog X.w) es va → ∀ {xs : List (L2.Key × V)} {kvs : List (L2.Key × D)} {ns : List Int}, KV xs va → RpKs X.K (hid O H) xs kvs → kvs.map (·.1) = ns.map Sum.inl → IntsAre (es.map (·.key)) ns := by
        intro es va hp
        induction hp with
        | nil =>
          intro xs kvs ns h1 h2 h3
          cases h1
          cases h2
          cases ns with
          | nil => exact .nil
          | cons _ _ => cases h3
        | @cons e kv es va g1 g2 _ ih =>
          intro xs kvs ns h1 h2 h3
          cases h1 with
          | cons p1 p2 =>
            cases h2 with
            | cons r1 r2 =>
              cases ns with
              | nil => cases h3
              | cons i ns =>
                have h3' := List.cons.inj h3
                have e0 : kv.1 = Sum.inl i := p1.1.symm.trans h3'.1
                have g1' : keyIs kv.1 e.key = true := g1
                rw [e0] at g1'
                obtain ⟨j, t, e1, e2⟩ | ⟨x, t, e1, e2⟩ := keyIs_shape g1'
                · cases e1
                  show IntsAre (e.key :: es.map (·.key)) _
                  rw [e2]
                  exact .cons _ _ (ih p2 r2 h3'.2)
                · cases e1
      exact key hpa va' rk hk
    refine sorted_dictR (s := s) (I.ok.hd hcalm) ya ⟨oa, hoa, hcl, hda⟩ hi hn fun h1 h2 tk out c ns' k1 k2 hc io hp => ?_
    have I1 : Inv X pins σ H { s with heap := h1 } := I.kept (t' := s.toks) k1
    have hlo : (ns'.map V.int).length ≤ sizeLine := by
      rw [List.length_map, hp.length_eq]
      have : ns.length = kvs.length := by
        have := congrArg List.length hk
        rw [List.length_map, List.length_map] at this
        exact this.symm
      rw [this, ← rk.length]; exact z
    have e0 : out.toList.toArray = out := Array.toArray_toList
    exact ⟨.ref _, upd H h1.objs.size (.lst (ns'.map V.int)), I1.laid (t' := tk) k2 (Nat.le_refl _) ⟨hlo, out.toList, c, L2.vals_of_ints io, by rw [e0]; exact hc⟩, rfl, q ns' _ hp (I1.hok.fresh (Nat.le_refl _))⟩
section
variable {c : Ctx} {ρ : List SD} {n : Nat} {ta tk : TA} {Φ : Nat → D → Prop}
/-- a built-in called with keywords -/
theorem we_ckw {r : List V → List V → Hp → VK → Prop} (h : WA c ta ρ n fun n1 ds => WA c tk ρ n1 fun n2 es => ∀ (O : List Addr) (H : Hp) (vs zs : List V) (Q : VK), RpAll c.K (hid O H) vs ds → RpAll c.K (hid O H) zs es → (∀ p, H p = none → p ∉ O) → (∀ v f H', Same H H' → Rp c.K (hid O H') v f → Φ n2 f → Q v H') → r vs zs H Q) : WE c (tCKw r ta tk) ρ n Φ := fun P L σ H Q E q => by
  refine h P L σ H _ E fun vs ds n1 H1 s1 j1 r1 h1 => ?_
  have E1 := E.step s1 j1
  refine h1 P L σ H1 _ E1 fun zs es n2 H2 s2 j2 r2 h2 => ?_
  have E2 := E1.step s2 j2
  refine h2 (L ++ c.O) H2 vs zs Q (r1.mono (E1.sameLO s2)) r2 E2.noO fun v f H' s r k => ?_
  have z := E2.same s
  exact q v f n2 H' ((s1.trans s2).trans z.1) z.2 r k
theorem we_sortKR (h : WA c ta ρ n fun n1 ds => ∃ (kvs : List (L2.Key × D)) (ns : List Int), ds = [.dct kvs] ∧ kvs.map (·.1) = ns.map Sum.inl ∧ WA c tk ρ n1 fun n2 es => es = [.bl true] ∧ ∀ ns' : List Int, ns'.Perm ns → Φ n2 (.lst (ns'.map .int))) : WE c (tCKw (rSortKR c.K) ta tk) ρ n Φ := we_ckw fun P L σ H Q E q => h P L σ H Q E fun vs ds n1 H1 s1 j1 r1 ⟨kvs, ns, e, hk, h2⟩ => by
  subst e
  refine q vs _ n1 H1 s1 j1 r1 fun P L σ H Q E q => h2 P L σ H Q E fun zs es n2 H2 s2 j2 r2 ⟨e, kk⟩ => ?_
  subst e
  refine q zs _ n2 H2 s2 j2 r2 fun O H xs ys Q rx ry no qq => ?_
  obtain ⟨v, rfl, rv⟩ := rx.one
  obtain ⟨u, rfl, ru⟩ := ry.one
  cases ru
  exact ⟨O, v, kvs, ns, rfl, rfl, rv, hk, fun ns' p hp hpn => qq _ _ _ (same_upd_new hpn) (.lst (.inl (hid_at (no p hpn))) (RpAll.ofInts ns')) (kk ns' hp)⟩
end
end L3
/-! L3v: an own list looked at; what comes out has no lists. -/
namespace L3
open PySem L2
mutual
def noLst : D → Bool
  | .lst _ => false
  | .tup xs => noLstAll xs
  | .obj _ _ => false
  | .dct _ => false
  | .dcn _ _ _ => false
  | .adr _ => false
  | .ty _ => false
  | _ => true
def noLstAll : List D → Bool
  | [] => true
  | x :: xs => noLst x && noLstAll xs
end
def NoTup (H : Hp) (l : Addr) : Prop := ∀ xs, ¬ Rd H l (.tup xs)
theorem noTup_lst {H : Hp} {l : Addr} {ys : List V} (h : H l = some (.lst ys)) : NoTup H l := fun xs => by
  rintro (q | ⟨o, q⟩) <;> (rw [h] at q; cases q)
mutual
theorem rt_drop {K : PySem.W.Frag} {O : List Addr} {H : Hp} {l : Addr} (hl : NoTup H l) : ∀ (d : D) (v : V), Rp K (hid O H) v d → noLst d = true → Rp K (hid (l :: O) H) v d
  | .non, _, h, _ => by cases h; exact .non
  | .bl b, _, h, _ => by cases h; exact .bl b
  | .int i, _, h, _ => by cases h; exact .int i
  | .str x, _, h, _ => by cases h; exact .str x
  | .lst xs, _, h, p => by cases p
  | .tup xs, _, h, p => by
    cases h with
    | tup h r =>
      refine .tup ?_ (rt_drops hl xs _ r p)
      rcases h with h | h
      · exact .inl (rd_drop (hl _) h)
      · exact .inr h
  | .obj _ _, _, _, p => by cases p
  | .adr _, _, _, p => by cases p
  | .ty _, _, _, p => by cases p
  | .dct _, _, _, p => by cases p
  | .dcn _ _ _, _, _, p => by cases p
theorem rt_drops {K : PySem.W.Frag} {O : List Addr} {H : Hp} {l : Addr} (hl : NoTup H l) : ∀ (ds : List D) (vs : List V), RpAll K (hid O H) vs ds → noLstAll ds = true → RpAll K (hid (l :: O) H) vs ds
  | [], _, h, _ => by cases h; exact .nil
  | x :: xs, _, h, p => by
    cases h with
    | cons h r =>
      have p' : (noLst x && noLstAll xs) = true := p
      rw [Bool.and_eq_true] at p'
      exact .cons (rt_drop hl x _ h p'.1) (rt_drops hl xs _ r p'.2)
end
section
variable {c : Ctx} {ρ : List SD} {n : Nat} {te : TE} {Φ : Nat → D → Prop}
theorem Env.freeze2 {P : Hp} {L : List Addr} {n : Nat} {H : Hp} {σ : List (Option V)} {i : Nat} {ds : List D} (E : Env c P L n H σ ρ) (h : ρ[i]? = some (.own ds)) : ∃ L', Env c P L' n H σ (ρ.set i (.val (.lst ds))) ∧ L'.Sublist L ∧ ∃ l xs, (∀ a ∈ L, a = l ∨ a ∈ L') ∧ l ∈ L ∧ H l = some (.lst xs) := by
  obtain ⟨Ls, sl, sb⟩ := E.slots
  obtain ⟨L1, l, L2, xs, h1, h2, h3, h4⟩ := sl.freeze h
  have lL : l ∈ L := sb.subset (by rw [h1]; simp)
  have sub : (L.erase l).Sublist L := List.erase_sublist
  have nl : l ∉ L.erase l := E.nd.not_mem_erase
  have sb2 : (L1 ++ L2).Sublist (L.erase l) := by
    have nd := sb.nodup E.nd
    rw [h1] at nd
    have n1 : l ∉ L1 := fun q => by
      have := (List.nodup_append.mp nd).2.2 l q l List.mem_cons_self
      exact this rfl
    have q : (Ls.erase l).Sublist (L.erase l) := sb.erase l
    rw [h1, List.erase_append_right _ n1, List.erase_cons_head] at q
    exact q
  have nO : l ∉ (L.erase l) ++ c.O := fun q => by
    rcases List.mem_append.mp q with q | q
    · exact nl q
    · exact (E.fresh l lL).2 q
  have se : Same (hid (L ++ c.O) H) (hid ((L.erase l) ++ c.O) H) := same_hid_sub fun a ha => by
    rcases List.mem_append.mp ha with q | q
    · exact List.mem_append_left _ (sub.subset q)
    · exact List.mem_append_right _ q
  exact ⟨L.erase l, { nd := sub.nodup E.nd, fresh := fun l hl => E.fresh l (sub.subset hl), slots := ⟨_, h4 _ se nO, sb2⟩, lst := fun l hl => E.lst l (sub.subset hl), base := E.base, pers := E.pers.trans se, bO := E.bO, al := E.al, bag := E.bag }, sub, l, xs, fun a ha => by by_cases q : a = l; exact .inl q; exact .inr ((List.mem_erase_of_ne q).mpr ha), lL, h2⟩
theorem we_lookT (i : Nat) {ds : List D} (h : ρ[i]? = some (.own ds)) (k : WE c te (ρ.set i (.val (.lst ds))) n fun n1 d => noLst d = true ∧ Φ n1 d) : WE c te ρ n Φ := fun P L σ H Q E q => by
  obtain ⟨L', E', sub, l, xs, hL, lL, hx⟩ := E.freeze2 h
  refine k P L' σ H Q E' fun v d n1 H1 s1 j1 r1 ⟨hs, k1⟩ => q v d n1 H1 s1 j1 ?_ k1
  have hB : l ∉ c.B := E.notB lL
  have h1 : H1 l = some (.lst xs) := (hid_some.mp (s1 l _ (hid_some.mpr ⟨hB, hx⟩))).2
  exact (rt_drop (noTup_lst h1) d v r1 hs).mono (same_hid_sub fun a ha => by
    rcases List.mem_append.mp ha with q | q
    · rcases hL a q with e | e
      · rw [e]; exact List.mem_cons_self
      · exact List.mem_cons_of_mem _ (List.mem_append_left _ e)
    · exact List.mem_cons_of_mem _ (List.mem_append_right _ q))
end
end L3
namespace Toy
open PySem L2 L3
def top (i : Nat) : Stmt := PySem.Challenge.pw_askedtrue_k21_whole_plays_of_tables_of_a.main.body.getD i (.Pass ⟨0, 0, 0, 0⟩)
structure Txt (mg : Str → Option Value) : Prop where
  b_len : mg "len" = none
  b_abs : mg "abs" = none
  b_sum : mg "sum" = none
  b_max : mg "max" = none
  b_min : mg "min" = none
  b_all : mg "all" = none
  b_any : mg "any" = none
  b_sorted : mg "sorted" = none
  b_isinstance : mg "isinstance" = none
  b_int : mg "int" = none
  b_bool : mg "bool" = none
  b_str : mg "str" = none
  b_list : mg "list" = none
  b_tuple : mg "tuple" = none
  b_range : mg "range" = none
  b_enumerate : mg "enumerate" = none
  b_dict : mg "dict" = none
theorem hu1 {k : Nat} {A : Around} (hr : Room k A) : A.units + 1 < cLine := by have := hr.un; omega
theorem hu65 {k : Nat} {A : Around} (hr : Room k A) : A.units + 65 < cLine := by have := hr.un; omega
section
variable {P : Program} {w : World} {K : PySem.W.Frag} {mg : Str → Option Value} {base : Heap}
/-! the draw -/
def spDraw : L3.Spec := fun bag n ds Φ => ∃ b q k, bag = some (b, q) ∧ ds = [.adr b, .int k] ∧ 0 < k ∧ k < 2 ^ 200 ∧ n < 2 ^ 60 ∧ ∀ r, 0 ≤ r → r < k → Φ (n + 1) (.int r)
abbrev s_law_draw : Stmt := top 24
abbrev N_law_draw : List Str := ["bag", "limit", "digit", "turn", "cells", "cell", "mixed"]
theorem sc_law_draw : FnScope N_law_draw ["bag", "limit"] (defScope s_law_draw) := ⟨rfl, rfl, rfl, by decide +kernel, rfl, by decide +kernel, by decide +kernel⟩

theorem upd3 {α : Type} (a b c x : α) : [a, b, c].set 2 x = [a, b, x] := rfl
theorem dec_gt {i j : Int} {A B : Prop} (h1 : j < i → A) (h2 : i ≤ j → B) : if decide (j < i) = true then A else B := by
  by_cases h : j < i
  · rw [if_pos (decide_eq_true h)]; exact h1 h
  · rw [if_neg (by simpa using h)]; exact h2 (by omega)
theorem ifs_ans {c : TT} {t u : TS} {D : Ends} {σ : L2.St} {H : Hp} (b : Bool) (hc : Ans c σ H b) (h1 : b = true → t D σ H) (h2 : b = false → u D σ H) : tIfS c t u D σ H := by
  refine hc _ ?_
  cases b with
  | true => exact h1 rfl
  | false => exact h2 rfl
theorem ok_draw {f : Addr} {fd : FuncData} (F : Fun K "_law_draw" "_law_draw" s_law_draw f fd) (T : Txt mg) : FnOk P w K mg base CX0 1 f fd ["bag", "limit"] (spD K spDraw) := by
  refine F.ok sc_law_draw (fun vs H Q E h => ?_) (fun cdv A outer s H vs Q E hr h => ?_)
  · obtain ⟨O, bag, n, ds, Φ, _, _, r, ⟨b, q, k, _, e, _⟩, _⟩ := h
    rw [r.length, e]; rfl
  · obtain ⟨O, bag, n, ds, Φ, hb, hO, r, ⟨b, q, k, e1, e2, k0, k1, hn, hk⟩, q0⟩ := h
    subst e1; subst e2
    obtain ⟨⟨t, r0, cs, h1, h2, h3, h4, h5, h6, h7, h8⟩, bO, qO, nqb⟩ := hb b q rfl
    obtain ⟨v1, v2, rfl, r1, r2⟩ := r.two
    cases r1
    cases r2
    have Qf : ∀ (x : Int) (t' r' : Int) (H' : Hp), 0 ≤ x → x < k → 0 ≤ t' → t' ≤ t + 1 → 0 ≤ r' → H' = upd H b (.lst [.ref q, .int t', .int r']) → Q (.int x) H' := fun x t' r' H' x0 xk t0 t1 r0 e => by
      subst e
      refine q0 _ (.int x) (n + 1) _ ?_ (fun b' q' e => ?_) (.int x) (hk x x0 xk)
      · show Same (hid [b] H) (hid [b] _)
        rw [hid_upd_in List.mem_cons_self]
        exact Same.refl _
      · cases e
        exact ⟨t', r', cs, upd_same, by rw [upd_ne nqb]; exact h2, h3, h4, h5, t0, by omega, r0⟩
    have hcl : 0 < cs.length := List.length_pos_iff.mpr h3
    have hlt : t.natAbs < 2 ^ 61 := by omega
    have hc63 : (cs.length : Int) ≤ 63 := by omega
    have kW : CDivW r0 k ∧ CDivW 0 k := by
      have : k.natAbs.log2 < 9000 := Nat.lt_of_lt_of_le (PySem.Flt.log2_lt_of (by decide) (show k.natAbs < 2 ^ 200 by omega)) (by decide)
      exact ⟨⟨k0, this⟩, ⟨k0, this⟩⟩
    refine ⟨_, (pss_cons (ps_if (pt_cmpR op_gt (pe_ix (x_ix K) (pv 0) pe_int (fun _ _ => rfl)) pe_int (nomark _)) (pss_cons (ps_set (i := 2) sc_law_draw.nd rfl (Or.inl rfl) (pe_op op_mod (pe_callTy call_intX (by rfl) T.b_int (by decide +kernel) (pa_cons (pe_ix (x_ix K) (pv 0) pe_int (fun _ _ => rfl)) pa_nil)) (pv 1)))
  (pss_cons (ps_asg (pe_op op_fdivW (pe_ix (x_ix K) (pv 0) pe_int (fun _ _ => rfl)) (pv 1)) (pg_sub (pv 0) pe_int set_list))
  (pss_one (ps_ret (pv 2))))) pss_nil)
  (pss_cons (ps_set (i := 3) sc_law_draw.nd rfl (Or.inl rfl) (pe_ix (x_ix K) (pv 0) pe_int (fun _ _ => rfl)))
  (pss_cons (ps_asg (pe_op (x_add K) (pv 3) pe_int) (pg_sub (pv 0) pe_int set_list))
  (pss_cons (ps_set (i := 4) sc_law_draw.nd rfl (Or.inl rfl) (pe_ix (x_ix K) (pv 0) pe_int (fun _ _ => rfl)))
  (pss_cons (ps_set (i := 5) sc_law_draw.nd rfl (Or.inl rfl) (pe_ix (x_ix K) (pv 4) (pe_op op_mod (pe_callTy call_intX (by rfl) T.b_int (by decide +kernel) (pa_cons (pv 3) pa_nil)) (pe_callB (x_len K) (by rfl) T.b_len (by decide +kernel) (pa_cons (pv 4) pa_nil))) (fun _ _ => rfl)))
  (pss_cons (ps_if (PW.pt (pw_and (pt_cmpR op_lt (pv 3) (pe_callB (x_len K) (by rfl) T.b_len (by decide +kernel) (pa_cons (pv 4) pa_nil)) (nomark _)) (pw_and1 (pt_cmpR op_ge (pv 5) (pe_op op_pow pe_int pe_int) (nomark _))))) (pss_cons (ps_asg (pe_op op_fdivW (pv 5) (pv 1)) (pg_sub (pv 0) pe_int set_list))
  (pss_one (ps_ret (pe_op op_mod (pe_callTy call_intX (by rfl) T.b_int (by decide +kernel) (pa_cons (pv 5) pa_nil)) (pv 1))))) pss_nil)
  (pss_cons (ps_set (i := 6) sc_law_draw.nd rfl (Or.inl rfl) (pe_op op_mod (pe_callTy call_intX (by rfl) T.b_int (by decide +kernel) (pa_cons (pe_op (x_add K) (pe_op (x_add K) (pe_op op_mul (pe_op (x_add K) (pv 5) pe_int) pe_int) (pe_op op_mul (pe_op op_mul (pv 3) (pv 3)) pe_int)) (pe_op op_mul (pv 3) pe_int)) pa_nil)) pe_int))
  (pss_cons (ps_set (i := 6) sc_law_draw.nd rfl (Or.inl rfl) (pe_op op_mod (pe_callTy call_intX (by rfl) T.b_int (by decide +kernel) (pa_cons (pe_op (x_add K) (pe_op op_mul (pv 6) pe_int) (pe_op op_mul (pe_op (x_add K) (pv 3) pe_int) pe_int)) pa_nil)) pe_int))
  (pss_one (ps_ret (pe_op op_mod (pe_callTy call_intX (by rfl) T.b_int (by decide +kernel) (pa_cons (pe_op op_fdivW (pv 6) pe_int) pa_nil)) (pv 1)))))))))))), ?_⟩
    refine ⟨_, rfl, .inl ⟨b, _, 2, .int r0, rfl, rfl, SqL.of h1, rfl, ?_⟩⟩
    refine ⟨r0, 0, rfl, rfl, _, rfl, ?_⟩
    refine dec_gt (fun hr0 => ?_) (fun hr0 => ?_)
    · refine ⟨_, rfl, .inl ⟨b, _, 2, .int r0, rfl, rfl, SqL.of h1, rfl, .inl ⟨r0, rfl, _, rfl, r0, k, rfl, rfl, k0, ?_⟩⟩⟩
      refine ⟨_, rfl, .inl ⟨b, _, 2, .int r0, rfl, rfl, SqL.of h1, rfl, _, rfl, r0, k, rfl, rfl, kW.1, ?_⟩⟩
      refine ⟨_, rfl, b, _, 2, 2, rfl, rfl, h1, rfl, _, rfl, ?_⟩
      exact Qf _ t (r0 / k) _ (Int.emod_nonneg _ (by omega)) (Int.emod_lt_of_pos _ k0) h6 (by omega) (Int.ediv_nonneg h8 (by omega)) rfl
    · refine ⟨_, rfl, .inl ⟨b, _, 1, .int t, rfl, rfl, SqL.of h1, rfl, ?_⟩⟩
      -- bag[1] = turn + 1
      refine ⟨_, rfl, .inl ⟨t, 1, rfl, rfl, _, rfl, b, _, 1, 1, rfl, rfl, h1, rfl, ?_⟩⟩
      have g1 : upd H b (.lst [.ref q, .int (t + 1), .int r0]) b = some (.lst [.ref q, .int (t + 1), .int r0]) := upd_same
      have g2 : upd H b (.lst [.ref q, .int (t + 1), .int r0]) q = some (.lst (cs.map V.int)) := by rw [upd_ne nqb]; exact h2
      -- cells = bag[0]; cell = cells[int(turn) % len(cells)]
      refine ⟨_, rfl, .inl ⟨b, _, 0, .ref q, rfl, rfl, SqL.of g1, rfl, ?_⟩⟩
      have hm0 : 0 ≤ t % (cs.length : Int) := Int.emod_nonneg _ (by omega)
      have hm1 : t % (cs.length : Int) < cs.length := Int.emod_lt_of_pos _ (by omega)
      obtain ⟨j, hj⟩ : ∃ j : Nat, t % (cs.length : Int) = j := ⟨(t % (cs.length : Int)).toNat, by omega⟩
      have hjl : j < cs.length := by omega
      have hat : atI (cs.map V.int) (t % (cs.length : Int)) = some (.int cs[j]) := by
        rw [hj]
        exact atI_nat (by rw [List.getElem?_map, List.getElem?_eq_getElem hjl]; rfl)
      have hc0 : 0 ≤ cs[j] := h4 _ (List.getElem_mem hjl)
      refine ⟨_, rfl, _, rfl, .inl ⟨t, rfl, _, rfl, .inl ⟨q, _, rfl, .inl (SqL.of g2), t, _, rfl, rfl, (by rw [List.length_map]; omega), ?_⟩⟩⟩
      refine .inl ⟨q, _, _, .int cs[j], rfl, rfl, SqL.of g2, by rw [List.length_map]; exact hat, ?_⟩
      generalize hcell : cs[j] = cell at hc0
      have fin : ∀ m : Int, 0 ≤ m % k ∧ m % k < k := fun m => ⟨Int.emod_nonneg _ (by omega), Int.emod_lt_of_pos _ k0⟩
      have tB : -(2 ^ 64) < t ∧ t < 2 ^ 64 := by omega
      unfold gName
      dsimp only
      refine st_seq ?_
      refine ifs_ans (decide (t < cs.length) && decide (10 ^ 18 ≤ cell)) (ans_and2 (fun Q' q' => ⟨_, rfl, _, rfl, .inl ⟨q, _, rfl, .inl (SqL.of g2), t, _, rfl, rfl, _, rfl, by rw [List.length_map]; exact q'⟩⟩) (fun Q' q' => ⟨_, rfl, 10, 18, rfl, rfl, ⟨by decide, by decide, by decide⟩, _, _, rfl, rfl, _, rfl, q'⟩)) (fun hb1 => ?_) (fun hb1 => ?_)
      · have kc : CDivW cell k := ⟨k0, kW.1.2⟩
        refine ⟨_, rfl, _, rfl, cell, k, rfl, rfl, kc, ?_⟩
        refine ⟨_, rfl, b, _, 2, 2, rfl, rfl, g1, rfl, _, rfl, .inl ⟨cell, rfl, _, rfl, cell, k, rfl, rfl, k0, ?_⟩⟩
        refine Qf _ (t + 1) (cell / k) _ (fin cell).1 (fin cell).2 (by omega) (by omega) (Int.ediv_nonneg hc0 (by omega)) ?_
        rw [upd_upd]; rfl
      · refine ⟨_, rfl, .inl ⟨cell, 17, rfl, rfl, _, _, rfl, rfl, .inr (by decide), ?_⟩⟩
        refine ⟨_, rfl, _, rfl, t, t, rfl, rfl, .inl tB, _, _, rfl, rfl, .inr (by decide), .inl ⟨_, _, rfl, rfl, ?_⟩⟩
        refine ⟨_, rfl, _, _, rfl, rfl, .inr (by decide), .inl ⟨_, _, rfl, rfl, .inl ⟨_, rfl, _, _, rfl, rfl, (by show (0 : Int) < 2147483647; decide), ?_⟩⟩⟩
        refine ⟨_, rfl, _, _, rfl, rfl, .inr (by decide), _, rfl, .inl ⟨t, 3, rfl, rfl, _, _, rfl, rfl, .inr (by decide), .inl ⟨_, _, rfl, rfl, .inl ⟨_, rfl, _, _, rfl, rfl, (by show (0 : Int) < 2147483399; decide), ?_⟩⟩⟩⟩
        refine ⟨_, rfl, _, _, rfl, rfl, ⟨by decide, by decide +kernel⟩, .inl ⟨_, rfl, _, rfl, _, _, rfl, rfl, k0, ?_⟩⟩
        exact Qf _ (t + 1) r0 _ (fin _).1 (fin _).2 (by omega) (by omega) h8 rfl
end
end Toy
namespace Toy
open PySem L2 L3
local macro_rules | `(tactic| walk_at "we1") => `(tactic| first
  | ((with_reducible refine' we_var ?hv ?_); (case hv => rfl))
  | (with_reducible refine we_int ?_)
  | (with_reducible refine we_str ?_)
  | (with_reducible refine we_bl ?_)
  | (with_reducible refine we_non ?_)
  | ((with_reducible refine' we_dix ?hv ?_); (case hv => rfl))
  | (with_reducible refine we_op ?_)
  | ((with_reducible refine' we_dget ?hv ?_); (case hv => rfl))
  | (with_reducible refine we_count ?_)
  | (with_reducible refine we_cb ?_)
  | (with_reducible refine we_call0 ?_)
  | (with_reducible refine we_tup ?_)
  | (with_reducible refine we_lst ?_)
  | (with_reducible refine we_if ?_)
  | (with_reducible refine we_not ?_)
  | (with_reducible refine we_and ?_)
  | (with_reducible refine we_or ?_)
  | (with_reducible refine we_isN ?_)
  | (with_reducible refine we_notN ?_)
  | (with_reducible refine we_sl ?_)
  | (with_reducible refine wa_cons ?_)
  | (with_reducible refine wa_nil ?_)
  | (with_reducible refine wt_test ?_)
  | (with_reducible refine wt_B ?_)
  | (with_reducible refine wt_and ?_)
  | (with_reducible refine wt_or ?_)
  | (with_reducible refine wt_not ?_)
  | (with_reducible refine wt_yes ?_)
  | (with_reducible refine wo_none ?_)
  | (with_reducible refine wo_some ?_)
  | ((with_reducible refine' r2_ix ?hx ?_); (case hx => rfl))
  | (with_reducible refine r2_isN ?_)
  | (with_reducible refine r2_notN ?_)
  | (with_reducible refine r2_lt ?_)
  | (with_reducible refine r2_le ?_)
  | (with_reducible refine r2_gt ?_)
  | (with_reducible refine r2_ge ?_)
  | (with_reducible refine r2_sub ?_)
  | (with_reducible refine r2_addI ?_)
  | (with_reducible refine r2_eqI ?_)
  | (with_reducible refine r2_neI ?_)
  | (with_reducible refine rc_int ?_)
  | (with_reducible refine rc_abs ?_)
  | ((with_reducible refine' rc_len ?hl ?_); (case hl => rfl))
  | (with_reducible refine wi_seq ?_)
  | (with_reducible refine wi_rng1 ?_)
  | (with_reducible refine wi_rng2 ?_)
  | (with_reducible refine wi_enum ?_)
  | (refine ⟨_, rfl, ?_⟩))
local macro_rules | `(tactic| walk_at "ws1") => `(tactic| first
  | (with_reducible refine ws_seq ?_)
  | (with_reducible refine ws_set ?_)
  | (with_reducible refine ws_ret ?_)
  | (with_reducible refine ws_if ?_)
  | (with_reducible refine ws_next ?_)
  | (with_reducible refine ws_asg ?_))
local macro_rules | `(tactic| walk_at "wg1") => `(tactic| first
  | (with_reducible refine wg_name (rw_name (by decide)) ?_)
  | (with_reducible refine wg_name (fun _ _ => trivial) ?_)
  | ((with_reducible refine' wg_tup ?hl ?_); (case hl => rfl))
  | (with_reducible refine wgs_cons rw_trans ?_)
  | (with_reducible refine wgs_nil rw_refl ?_)
  | (with_reducible refine wgs_cons (fun _ _ _ _ _ => trivial) ?_)
  | (with_reducible refine wgs_nil (fun _ => trivial) ?_))
local macro_rules | `(tactic| walk_at "go") => `(tactic| repeat' (first | walk_at "we1" | walk_at "wg1"))
section
variable {P : Program} {w : World} {K : PySem.W.Frag} {mg : Str → Option Value} {base : Heap}
/-! whole numbers, names -/
def spWhole : L3.Spec := fun bag n ds Φ => ∃ i : Int, ds = [.int i] ∧ Φ n (.bl true)
abbrev s_is_whole : Stmt := top 11
abbrev N_is_whole : List Str := ["thing"]
theorem sc_is_whole : FnScope N_is_whole ["thing"] (defScope s_is_whole) := ⟨rfl, rfl, rfl, by decide +kernel, rfl, by decide +kernel, by decide +kernel⟩

theorem ok_whole {f : Addr} {fd : FuncData} (F : Fun K "is_whole" "is_whole" s_is_whole f fd) (T : Txt mg) : FnOk P w K mg base CX0 1 f fd ["thing"] (spD K spWhole) := by
  refine fn_D F sc_is_whole (fun bag n ds Φ h => ?_) (fun cdv A outer s H E O bag n ds Φ hr h => ?_)
  · obtain ⟨E, e, _⟩ := h
    rw [e]; rfl
  · obtain ⟨i, e, kk⟩ := h
    subst e
    refine ⟨_, (pss_one (ps_ret (pe_and (pe_callB (x_isi K) (by rfl) T.b_isinstance (by decide +kernel) (pa_cons (pv 0) (pa_cons (pe_bltn (v := .ty "int") (by rfl) T.b_int (by decide +kernel) rfl) pa_nil))) (pe_one (pe_not (pe_callB (x_isi K) (by rfl) T.b_isinstance (by decide +kernel) (pa_cons (pv 0) (pa_cons (pe_bltn (v := .ty "bool") (by rfl) T.b_bool (by decide +kernel) rfl) pa_nil)))))))), ?_⟩
    show WS _ _ [.val (.int i)] n _
    walk_at "ws1"
    walk_at "go"
    refine we_ty ?_
    walk_at "go"
    refine rc_isi (b := true) rfl (by decide +kernel) ?_
    refine ⟨_, rfl, itT rfl ?_⟩
    walk_at "go"
    refine we_ty ?_
    walk_at "go"
    refine rc_isi (b := false) rfl (by decide +kernel) ?_
    exact ⟨_, rfl, kk⟩
/-- the signs of names -/
def letters : Str := "abcdefghijklmnopqrstuvwxyz"
def signs36 : Str := "abcdefghijklmnopqrstuvwxyz0123456789"
def isName (z : Str) : Bool := decide (1 ≤ z.cps.size) && decide (z.cps.size ≤ 8) && decide (z.cps.toList.headD 0 ∈ letters.cps.toList) && z.cps.toList.all fun u => decide (u ∈ signs36.cps.toList)
structure Txt2 (mg : Str → Option Value) (tL tS : Tok) : Prop where
  b : Txt mg
  c_LETTERS : mg "LETTERS" = some (.str letters tL)
  c_SIGNS : mg "SIGNS" = some (.str signs36 tS)
def spName : L3.Spec := fun bag n ds Φ => ∃ z : Str, ds = [.str z] ∧ isName z = true ∧ Φ n (.bl true)
def inSigns : D → D
  | .str x => .bl (decide (x.cps.toList.headD 0 ∈ signs36.cps.toList))
  | _ => .non
abbrev s_is_name : Stmt := top 12
abbrev N_is_name : List Str := ["thing", "sign"]
theorem sc_is_name : FnScope N_is_name ["thing"] (defScope s_is_name) := ⟨rfl, rfl, rfl, by decide +kernel, rfl, by decide +kernel, by decide +kernel⟩

theorem ok_name {f : Addr} {fd : FuncData} {tL tS : Tok} (F : Fun K "is_name" "is_name" s_is_name f fd) (T2 : Txt2 mg tL tS) : FnOk P w K mg base CX0 1 f fd ["thing"] (spD K spName) := by
  refine fn_D F sc_is_name (fun bag n ds Φ h => ?_) (fun cdv A outer s H E O bag n ds Φ hr h => ?_)
  · obtain ⟨E, e, _⟩ := h
    rw [e]; rfl
  · obtain ⟨z, e, hz, kk⟩ := h
    subst e
    have T := T2.b
    refine ⟨_, (pss_cons (ps_if (PW.pt (pw_or (pt_not (pt_val (pe_callB (x_isi K) (by rfl) T.b_isinstance (by decide +kernel) (pa_cons (pv 0) (pa_cons (pe_bltn (v := .ty "str") (by rfl) T.b_str (by decide +kernel) rfl) pa_nil))))) (pw_or (pt_cmpR op_lt (pe_callB (x_len K) (by rfl) T.b_len (by decide +kernel) (pa_cons (pv 0) pa_nil)) pe_int (nomark _)) (pw_or1 (pt_cmpR op_gt (pe_callB (x_len K) (by rfl) T.b_len (by decide +kernel) (pa_cons (pv 0) pa_nil)) pe_int (nomark _)))))) (pss_one (ps_ret pe_bl)) pss_nil)
  (pss_one (ps_ret (pe_and (pe_cmpR L2.op_inS (pe_ix (x_ix K) (pv 0) pe_int (fun _ _ => rfl)) (pe_glob (v := (.str _)) (by rfl) T2.c_LETTERS ⟨_, rfl⟩) (by with_unfolding_all rfl)) (pe_one (pe_callB (x_all K) (by rfl) T.b_all (by decide +kernel) (pa_cons (pe_lc (own := [("sign", 1)]) (g := gName 1) (tt := tYes) rfl sc_is_name.nd (pi_str (pv 0)) (blkOk_by (own := [("sign", 1)]) (N := N_is_name) (sc := defScope s_is_name) (by decide +kernel)) (fun _ _ _ _ _ => (pg_name (i := 1) sc_is_name.nd rfl (Or.inl rfl))) (fun _ _ _ _ _ => pts_nil) (fun _ _ _ _ _ => (pe_cmpR L2.op_inS (pv 1) (pe_glob (v := (.str _)) (by rfl) T2.c_SIGNS ⟨_, rfl⟩) (by with_unfolding_all rfl)))) pa_nil))))))), ?_⟩
    show WS _ _ [.val (.str z), .un] n _
    unfold isName at hz
    simp only [Bool.and_eq_true, decide_eq_true_eq] at hz
    obtain ⟨⟨⟨h1, h8⟩, hL⟩, hA⟩ := hz
    have hlen : z.length = z.cps.size := rfl
    have hd : lenD (.str z) = some ((z.cps.size : Nat) : Int) := by
      show (if z.length ≤ sizeLine then _ else _) = _
      rw [if_pos (by rw [hlen, sizeLine_eq]; omega)]; rfl
    walk_at "ws1"
    walk_at "ws1"
    walk_at "go"
    refine we_ty ?_
    walk_at "go"
    refine rc_isi (b := true) rfl (by decide +kernel) ?_
    refine ⟨_, rfl, itF rfl ?_⟩
    walk_at "go"
    refine rc_len hd ?_
    walk_at "go"
    refine decF (by omega) ?_
    walk_at "go"
    refine rc_len hd ?_
    walk_at "go"
    refine decF (by omega) ?_
    walk_at "ws1"
    walk_at "ws1"
    walk_at "go"
    have hix : ixD (.str z) 0 = some (.str ⟨#[z.cps.toList.headD 0]⟩) := by
      show (if z.length ≤ sizeLine then (atI z.cps.toList ((0 : Nat) : Int)).map _ else none) = _
      rw [if_pos (by rw [hlen, sizeLine_eq]; omega)]
      have hz0 : z.cps.toList[0]? = some (z.cps.toList.headD 0) := by
        cases hq : z.cps.toList with
        | nil => have : z.cps.toList.length = 0 := by rw [hq]; rfl
                 rw [Array.length_toList] at this; omega
        | cons u l => rfl
      rw [atI_nat hz0]; rfl
    refine r2_ix hix ?_
    walk_at "go"
    refine r2_sign ?_
    refine ⟨_, rfl, decT hL ?_⟩
    refine we_cb (wa_cons (wf_we (wf_map inSigns (fun _ => true) ?_)))
    refine wi_str ?_
    walk_at "go"
    refine ⟨?_, fun d hd m => ?_, ?_⟩
    · unfold signsD; rw [List.length_map, Array.length_toList]; omega
    · obtain ⟨u, _, rfl⟩ := List.mem_map.mp hd
      walk_at "go"
      refine ⟨rfl, rfl, fun _ => ?_⟩
      walk_at "go"
      exact r2_sign ⟨rfl, rfl⟩
    rw [filt_all]
    refine wa_nil ?_
    have e1 : (signsD z).map inSigns = (z.cps.toList.map fun u => decide (u ∈ signs36.cps.toList)).map D.bl := by
      unfold signsD
      rw [List.map_map, List.map_map]; rfl
    rw [e1]
    refine rc_all ?_
    have e2 : (z.cps.toList.map fun u => decide (u ∈ signs36.cps.toList)).all id = true := by
      rw [List.all_map]; exact hA
    rw [e2]
    exact kk
end
end Toy
namespace Toy
open PySem L2 L3
local macro_rules | `(tactic| walk_at "we1") => `(tactic| first
  | ((with_reducible refine' we_var ?hv ?_); (case hv => rfl))
  | (with_reducible refine we_int ?_)
  | (with_reducible refine we_str ?_)
  | (with_reducible refine we_bl ?_)
  | (with_reducible refine we_non ?_)
  | ((with_reducible refine' we_dix ?hv ?_); (case hv => rfl))
  | (with_reducible refine we_op ?_)
  | ((with_reducible refine' we_dget ?hv ?_); (case hv => rfl))
  | (with_reducible refine we_count ?_)
  | (with_reducible refine we_cb ?_)
  | (with_reducible refine we_call0 ?_)
  | (with_reducible refine we_tup ?_)
  | (with_reducible refine we_lst ?_)
  | (with_reducible refine we_if ?_)
  | (with_reducible refine we_not ?_)
  | (with_reducible refine we_and ?_)
  | (with_reducible refine we_or ?_)
  | (with_reducible refine we_isN ?_)
  | (with_reducible refine we_notN ?_)
  | (with_reducible refine we_sl ?_)
  | (with_reducible refine wa_cons ?_)
  | (with_reducible refine wa_nil ?_)
  | (with_reducible refine wt_test ?_)
  | (with_reducible refine wt_B ?_)
  | (with_reducible refine wt_and ?_)
  | (with_reducible refine wt_or ?_)
  | (with_reducible refine wt_not ?_)
  | (with_reducible refine wt_yes ?_)
  | (with_reducible refine wo_none ?_)
  | (with_reducible refine wo_some ?_)
  | ((with_reducible refine' r2_ix ?hx ?_); (case hx => rfl))
  | (with_reducible refine r2_isN ?_)
  | (with_reducible refine r2_notN ?_)
  | (with_reducible refine r2_lt ?_)
  | (with_reducible refine r2_le ?_)
  | (with_reducible refine r2_gt ?_)
  | (with_reducible refine r2_ge ?_)
  | (with_reducible refine r2_sub ?_)
  | (with_reducible refine r2_addI ?_)
  | (with_reducible refine r2_eqI ?_)
  | (with_reducible refine r2_neI ?_)
  | (with_reducible refine rc_int ?_)
  | (with_reducible refine rc_abs ?_)
  | ((with_reducible refine' rc_len ?hl ?_); (case hl => rfl))
  | (with_reducible refine wi_seq ?_)
  | (with_reducible refine wi_rng1 ?_)
  | (with_reducible refine wi_rng2 ?_)
  | (with_reducible refine wi_enum ?_)
  | (refine ⟨_, rfl, ?_⟩))
local macro_rules | `(tactic| walk_at "ws1") => `(tactic| first
  | (with_reducible refine ws_seq ?_)
  | (with_reducible refine ws_set ?_)
  | (with_reducible refine ws_ret ?_)
  | (with_reducible refine ws_if ?_)
  | (with_reducible refine ws_next ?_)
  | (with_reducible refine ws_asg ?_))
local macro_rules | `(tactic| walk_at "wg1") => `(tactic| first
  | (with_reducible refine wg_name (rw_name (by decide)) ?_)
  | (with_reducible refine wg_name (fun _ _ => trivial) ?_)
  | ((with_reducible refine' wg_tup ?hl ?_); (case hl => rfl))
  | (with_reducible refine wgs_cons rw_trans ?_)
  | (with_reducible refine wgs_nil rw_refl ?_)
  | (with_reducible refine wgs_cons (fun _ _ _ _ _ => trivial) ?_)
  | (with_reducible refine wgs_nil (fun _ => trivial) ?_))
local macro_rules | `(tactic| walk_at "go") => `(tactic| repeat' (first | walk_at "we1" | walk_at "wg1"))
section
variable {P : Program} {w : World} {K : PySem.W.Frag} {mg : Str → Option Value} {base : Heap}
/-! events -/
structure Ev where
  nm : Str
  at_ : Int
  kind : Str
  needs : List Str
def evF (e : Ev) : List (Str × D) := [("name", .str e.nm), ("end", .int e.at_), ("kind", .str e.kind), ("needs", .tup (e.needs.map .str))]
abbrev evD (C : Addr) (e : Ev) : D := .obj C (evF e)
structure EvT (K : PySem.W.Frag) (C : Addr) : Prop where
  cl : Cls K C
  n1 : NoAttr K C "name"
  n2 : NoAttr K C "end"
  n3 : NoAttr K C "kind"
  n4 : NoAttr K C "needs"
def spEv : SpecI := fun bag n ds Φ => ∃ (e : Ev), ds = [.str e.nm, .int e.at_, .str e.kind, .tup (e.needs.map .str)] ∧ Φ n (evF e)
abbrev s_Event___init : Stmt := inClass (top 13) 0
abbrev N_Event___init : List Str := ["self", "name", "end", "kind", "needs"]
theorem sc_Event___init : FnScope N_Event___init ["self", "name", "end", "kind", "needs"] (defScope s_Event___init) := ⟨rfl, rfl, rfl, by decide +kernel, rfl, by decide +kernel, by decide +kernel⟩

theorem ok_event {f C : Addr} {fd : FuncData} {dvs : List V} (F : FunD K "__init__" "Event.__init__" (defArgs s_Event___init) (defBody s_Event___init) (defScope s_Event___init) dvs [] f fd) (T : Txt mg) (TE : EvT K C) : FnOk P w K mg base CX0 1 f fd ["self", "name", "end", "kind", "needs"] (spI K C spEv) := by
  refine fn_ID F sc_Event___init (fun bag n ds Φ h => ?_) (fun cdv A outer s H E O bag n ds Φ p dx hr h => ?_)
  · obtain ⟨e, he, _⟩ := h
    rw [he]; rfl
  · obtain ⟨e, he, kk⟩ := h
    subst he
    refine ⟨_, (pss_cons (x_sfld K (ps_fld (pv 0) (pv 1) rfl))
  (pss_cons (x_sfld K (ps_fld (pv 0) (pv 2) rfl))
  (pss_cons (x_sfld K (ps_fld (pv 0) (pv 3) rfl))
  (pss_one (x_sfld K (ps_fld (pv 0) (pe_callTy (x_tup K) (by rfl) T.b_tuple (by decide +kernel) (pa_cons (pv 4) pa_nil)) rfl)))))), ?_⟩
    show WN _ _ _ _ _ _ _ _ _ [.val (.adr p), .val (.str e.nm), .val (.int e.at_), .val (.str e.kind), .val (.tup (e.needs.map .str))] n [] _
    refine wn_seq TE.cl TE.n1 (by decide) rfl fun H0 => ?_
    walk_at "go"
    refine wn_seq TE.cl TE.n2 (by show 1 < 1000; decide) rfl fun H0 => ?_
    walk_at "go"
    refine wn_seq TE.cl TE.n3 (by show 2 < 1000; decide) rfl fun H0 => ?_
    walk_at "go"
    refine wn_st TE.cl TE.n4 (by show 3 < 1000; decide) rfl fun H0 => ?_
    walk_at "go"
    refine rc_tup rfl ?_
    exact kk
end
end Toy
namespace Toy
open PySem L2 L3
local macro_rules | `(tactic| walk_at "we1") => `(tactic| first
  | ((with_reducible refine' we_var ?hv ?_); (case hv => rfl))
  | (with_reducible refine we_int ?_)
  | (with_reducible refine we_str ?_)
  | (with_reducible refine we_bl ?_)
  | (with_reducible refine we_non ?_)
  | ((with_reducible refine' we_dix ?hv ?_); (case hv => rfl))
  | (with_reducible refine we_op ?_)
  | ((with_reducible refine' we_dget ?hv ?_); (case hv => rfl))
  | (with_reducible refine we_count ?_)
  | (with_reducible refine we_cb ?_)
  | (with_reducible refine we_call0 ?_)
  | (with_reducible refine we_tup ?_)
  | (with_reducible refine we_lst ?_)
  | (with_reducible refine we_if ?_)
  | (with_reducible refine we_not ?_)
  | (with_reducible refine we_and ?_)
  | (with_reducible refine we_or ?_)
  | (with_reducible refine we_isN ?_)
  | (with_reducible refine we_notN ?_)
  | (with_reducible refine we_sl ?_)
  | (with_reducible refine wa_cons ?_)
  | (with_reducible refine wa_nil ?_)
  | (with_reducible refine wt_test ?_)
  | (with_reducible refine wt_B ?_)
  | (with_reducible refine wt_and ?_)
  | (with_reducible refine wt_or ?_)
  | (with_reducible refine wt_not ?_)
  | (with_reducible refine wt_yes ?_)
  | (with_reducible refine wo_none ?_)
  | (with_reducible refine wo_some ?_)
  | ((with_reducible refine' r2_ix ?hx ?_); (case hx => rfl))
  | (with_reducible refine r2_isN ?_)
  | (with_reducible refine r2_notN ?_)
  | (with_reducible refine r2_lt ?_)
  | (with_reducible refine r2_le ?_)
  | (with_reducible refine r2_gt ?_)
  | (with_reducible refine r2_ge ?_)
  | (with_reducible refine r2_sub ?_)
  | (with_reducible refine r2_addI ?_)
  | (with_reducible refine r2_eqI ?_)
  | (with_reducible refine r2_neI ?_)
  | (with_reducible refine rc_int ?_)
  | (with_reducible refine rc_abs ?_)
  | ((with_reducible refine' rc_len ?hl ?_); (case hl => rfl))
  | (with_reducible refine wi_seq ?_)
  | (with_reducible refine wi_rng1 ?_)
  | (with_reducible refine wi_rng2 ?_)
  | (with_reducible refine wi_enum ?_)
  | (refine ⟨_, rfl, ?_⟩))
local macro_rules | `(tactic| walk_at "ws1") => `(tactic| first
  | (with_reducible refine ws_seq ?_)
  | (with_reducible refine ws_set ?_)
  | (with_reducible refine ws_ret ?_)
  | (with_reducible refine ws_if ?_)
  | (with_reducible refine ws_next ?_)
  | (with_reducible refine ws_asg ?_))
local macro_rules | `(tactic| walk_at "wg1") => `(tactic| first
  | (with_reducible refine wg_name (rw_name (by decide)) ?_)
  | (with_reducible refine wg_name (fun _ _ => trivial) ?_)
  | ((with_reducible refine' wg_tup ?hl ?_); (case hl => rfl))
  | (with_reducible refine wgs_cons rw_trans ?_)
  | (with_reducible refine wgs_nil rw_refl ?_)
  | (with_reducible refine wgs_cons (fun _ _ _ _ _ => trivial) ?_)
  | (with_reducible refine wgs_nil (fun _ => trivial) ?_))
local macro_rules | `(tactic| walk_at "go") => `(tactic| repeat' (first | walk_at "we1" | walk_at "wg1"))
section
variable {P : Program} {w : World} {K : PySem.W.Frag} {mg : Str → Option Value} {base : Heap}
/-! an event's faults: none -/
structure Txt3 (K : PySem.W.Frag) (mg : Str → Option Value) (tE tN : Tok) (aK : Addr) : Prop where
  b : Txt mg
  c_MOST_ENDS : mg "MOST_ENDS" = some (.int 5 tE)
  c_MOST_NEEDS : mg "MOST_NEEDS" = some (.int 3 tN)
  c_KINDS : mg "KINDS" = some (.ref aK)
  kinds : ∀ H, Rp K H (.ref aK) (.tup [.str "query", .str "action"])
def goodEv (elder : List Str) (e : Ev) : Prop := isName e.nm = true ∧ e.nm ∉ elder ∧ 1 ≤ e.at_ ∧ e.at_ ≤ 5 ∧ (e.kind = "query" ∨ e.kind = "action") ∧ e.needs.length ≤ 3 ∧ (∀ x ∈ e.needs, x ∈ elder) ∧ e.needs.Nodup ∧ fit (.str e.nm) = true ∧ fit (.str e.kind) = true ∧ ∀ x ∈ e.needs, fit (.str x) = true
def spFault (C : Addr) : L3.Spec := fun bag n ds Φ => ∃ (e : Ev) (elder : List Str), ds = [evD C e, .lst (elder.map .str)] ∧ goodEv elder e ∧ elder.length ≤ 20 ∧ (∀ x ∈ elder, fit (.str x) = true) ∧ Φ n .non
theorem inD_str (x : Str) : ∀ l : List Str, inD (.str x) (l.map .str) = decide (x ∈ l) := fun l => by
  unfold inD
  rw [List.any_map]
  by_cases h : x ∈ l
  · rw [decide_eq_true h]
    refine List.any_eq_true.mpr ⟨x, h, ?_⟩
    show (x == x) = true
    simp
  · rw [decide_eq_false h]
    refine List.any_eq_false.mpr fun y hy => ?_
    show ¬ (y == x) = true
    simp only [beq_iff_eq]
    exact fun q => h (q ▸ hy)
theorem fit_strs {l : List Str} (h : ∀ x ∈ l, fit (.str x) = true) : fit (.lst (l.map .str)) = true := (fit_list fun d hd => by
  obtain ⟨x, hx, rfl⟩ := List.mem_map.mp hd
  exact ⟨h x hx, Nat.zero_le _⟩).1
abbrev s_event_fault : Stmt := top 14
abbrev N_event_fault : List Str := ["event", "elder", "place", "need"]
theorem sc_event_fault : FnScope N_event_fault ["event", "elder"] (defScope s_event_fault) := ⟨rfl, rfl, rfl, by decide +kernel, rfl, by decide +kernel, by decide +kernel⟩

theorem ok_fault {f C aK : Addr} {fd : FuncData} {tE tN : Tok} (F : Fun K "event_fault" "event_fault" s_event_fault f fd) (T3 : Txt3 K mg tE tN aK) (TE : EvT K C) (D_is_name : Dn P w K mg base "is_name" 1 ["thing"] [] [] spName) (D_is_whole : Dn P w K mg base "is_whole" 1 ["thing"] [] [] spWhole) : FnOk P w K mg base CX0 2 f fd ["event", "elder"] (spD K (spFault C)) := by
  refine fn_D F sc_event_fault (fun bag n ds Φ h => ?_) (fun cdv A outer s H E O bag n ds Φ hr h => ?_)
  · obtain ⟨e, l, he, _⟩ := h
    rw [he]; rfl
  · obtain ⟨e, elder, he, ⟨g1, g2, g3, g4, g5, g6, g7, g8, g9, g10, g11⟩, hel, hfe, kk⟩ := h
    subst he
    have T := T3.b
    refine ⟨_, (pss_cons (ps_if (pt_not (pt_val (pe_call D_is_name.G (hr.mono (by decide)) (by rfl) D_is_name.m D_is_name.k D_is_name.b D_is_name.v pass0 (pa_cons (x_fld K (pe_fld (pv 0) rfl)) pa_nil)))) (pss_one (ps_ret pe_str)) pss_nil)
  (pss_cons (ps_if (pt_cmpR (x_in K (by exact hu65 hr)) (x_fld K (pe_fld (pv 0) rfl)) (pv 1) (by with_unfolding_all rfl)) (pss_one (ps_ret pe_str)) pss_nil)
  (pss_cons (ps_if (PW.pt (pw_or (pt_not (pt_val (pe_call D_is_whole.G (hr.mono (by decide)) (by rfl) D_is_whole.m D_is_whole.k D_is_whole.b D_is_whole.v pass0 (pa_cons (x_fld K (pe_fld (pv 0) rfl)) pa_nil)))) (pw_or (pt_cmpR op_lt (x_fld K (pe_fld (pv 0) rfl)) pe_int (nomark _)) (pw_or1 (pt_cmpR op_gt (x_fld K (pe_fld (pv 0) rfl)) (pe_glob (v := (.int _)) (by rfl) T3.c_MOST_ENDS ⟨_, rfl⟩) (nomark _)))))) (pss_one (ps_ret pe_str)) pss_nil)
  (pss_cons (ps_if (pt_cmpR (x_notIn K (by exact hu65 hr)) (x_fld K (pe_fld (pv 0) rfl)) (pe_glob (v := (.ref _)) (by rfl) T3.c_KINDS rfl) (by with_unfolding_all rfl)) (pss_one (ps_ret pe_str)) pss_nil)
  (pss_cons (ps_if (pt_cmpR op_gt (pe_callB (x_len K) (by rfl) T.b_len (by decide +kernel) (pa_cons (x_fld K (pe_fld (pv 0) rfl)) pa_nil)) (pe_glob (v := (.int _)) (by rfl) T3.c_MOST_NEEDS ⟨_, rfl⟩) (nomark _)) (pss_one (ps_ret pe_str)) pss_nil)
  (pss_cons (ps_for PassesOwn.never rfl (x_enumT K (by rfl) T.b_enumerate (pa_cons (x_fld K (pe_fld (pv 0) rfl)) pa_nil)) (x_tgt K (pg_tup (by rfl) (pgs_cons (pg_name (i := 2) sc_event_fault.nd rfl (Or.inl rfl)) (pgs_cons (pg_name (i := 3) sc_event_fault.nd rfl (Or.inl rfl)) pgs_nil)))) (pss_one (ps_if (PW.pt (pw_or (pt_cmpR (x_notIn K (by exact hu65 hr)) (pv 3) (pv 1) (by with_unfolding_all rfl)) (pw_or1 (pt_cmpR (x_in K (by exact hu65 hr)) (pv 3) (pe_slice (x_sl K) (x_fld K (pe_fld (pv 0) rfl)) po_none (po_some (pv 2))) (by with_unfolding_all rfl))))) (pss_one (ps_ret pe_str)) pss_nil)))
  (pss_one (ps_ret pe_non)))))))), ?_⟩
    show WS _ _ [.val (evD C e), .val (.lst (elder.map .str)), .un, .un] n _
    walk_at "ws1"
    walk_at "ws1"
    walk_at "go"
    refine we_fld TE.cl TE.n1 ?_
    walk_at "go"
    refine ⟨g1, ?_⟩
    refine ⟨_, rfl, itF rfl ?_⟩
    walk_at "ws1"
    walk_at "ws1"
    walk_at "ws1"
    walk_at "go"
    refine we_fld TE.cl TE.n1 ?_
    walk_at "go"
    refine r2_in rfl g9 (fit_strs hfe) ?_
    rw [inD_str]
    refine ⟨_, rfl, decF g2 ?_⟩
    walk_at "ws1"
    walk_at "ws1"
    walk_at "ws1"
    walk_at "go"
    refine we_fld TE.cl TE.n2 ?_
    walk_at "go"
    refine itF rfl ?_
    walk_at "go"
    refine we_fld TE.cl TE.n2 ?_
    walk_at "go"
    refine decF (by omega) ?_
    walk_at "go"
    refine we_fld TE.cl TE.n2 ?_
    walk_at "go"
    refine decF (by omega) ?_
    walk_at "ws1"
    walk_at "ws1"
    walk_at "ws1"
    walk_at "go"
    refine we_fld TE.cl TE.n3 ?_
    walk_at "go"
    refine we_const T3.kinds ?_
    have fk : fit (.lst (([("query" : Str), "action"]).map .str)) = true := by decide +kernel
    refine r2_notIn (ds := ([("query" : Str), "action"]).map .str) rfl g10 fk ?_
    rw [inD_str]
    have hk : e.kind ∈ ([("query" : Str), "action"]) := by
      rcases g5 with h | h
      · rw [h]; exact List.mem_cons_self
      · rw [h]; exact List.mem_cons_of_mem _ List.mem_cons_self
    rw [decide_eq_true hk]
    refine ⟨_, rfl, itF rfl ?_⟩
    walk_at "ws1"
    walk_at "ws1"
    walk_at "ws1"
    walk_at "go"
    refine we_fld TE.cl TE.n4 ?_
    walk_at "go"
    refine decF (by rw [List.length_map]; omega) ?_
    walk_at "ws1"
    walk_at "ws1"
    refine ws_for ?_
    refine wi_enumT ?_
    walk_at "go"
    refine we_fld TE.cl TE.n4 ?_
    walk_at "we1"
    refine ⟨_, rfl, _, rfl, ?_⟩
    walk_at "we1"
    refine ⟨_, rfl, fun i m ρ => m = n ∧ ∃ x2 x3, ρ = [.val (evD C e), .val (.lst (elder.map .str)), x2, x3], ⟨rfl, _, _, rfl⟩, ?_, ?_⟩
    · rintro i m ρ1 d hd ⟨rfl, x2, x3, rfl⟩
      obtain ⟨d1, hd1, rfl⟩ := enumD_get hd
      obtain ⟨x, hx, rfl, hxm, _⟩ := map_at hd1
      have hil : i ≤ (e.needs.map D.str).length := Nat.le_of_lt (List.getElem?_eq_some_iff.mp hd1).1
      have hz : (0 : Int) + (i : Nat) = (i : Nat) := by omega
      rw [hz]
      walk_at "go"
      walk_at "ws1"
      walk_at "go"
      refine r2_notIn rfl (g11 x hxm) (fit_strs hfe) ?_
      rw [inD_str, decide_eq_true (g7 x hxm)]
      refine ⟨_, rfl, itF rfl ?_⟩
      walk_at "go"
      refine we_fld TE.cl TE.n4 ?_
      walk_at "go"
      rw [cut_to hil, ← List.map_take]
      refine r2_in rfl (g11 x hxm) (fit_strs fun y hy => g11 y (List.mem_of_mem_take hy)) ?_
      rw [inD_str]
      have hnot : x ∉ e.needs.take i := fun q => by
        have hdrop : x ∈ e.needs.drop i := List.mem_of_getElem? (i := 0) (by rw [List.getElem?_drop]; exact hx)
        have nd := g8
        rw [← List.take_append_drop i e.needs] at nd
        exact (List.nodup_append.mp nd).2.2 x q x hdrop rfl
      refine ⟨_, rfl, decF hnot ?_⟩
      walk_at "ws1"
      exact ⟨rfl, _, _, rfl⟩
    · rintro m ρ1 ⟨rfl, x2, x3, rfl⟩
      walk_at "ws1"
      walk_at "go"
      exact kk
end
end Toy
namespace L3
open PySem L2
def forget : SD → SD
  | .val d => .val d
  | _ => .un
theorem Slots.forget {pr : Program} {wd : World} {K : PySem.W.Frag} {O : List Addr} {H : Hp} : ∀ {σ : List (Option V)} {ρ : List SD} {L : List Addr}, Slots pr wd K O H σ ρ L → Slots pr wd K O H σ (ρ.map L3.forget) []
  | _, _, _, .nil => .nil
  | _, _, _, .un s => .un s.forget
  | _, _, _, .val h s => .val h s.forget
  | _, _, _, .own _ _ s => .un s.forget
  | _, _, _, .dic _ s => .un s.forget
  | _, _, _, .dk _ s => .un s.forget
  | _, _, _, .tw _ s => .un s.forget
section
variable {P : Program} {w : World} {K : PySem.W.Frag} {O : List Addr} {bag : Option (Addr × Addr)} {p C dx : Addr} {ρ : List SD} {n : Nat} {ks : List (Str × D)} {Φ : Nat → List (Str × D) → Prop} {ts us vs : TS}
/-- statements ahead of the stores; what they own is forgotten -/
theorem wn_preF (h : ∀ H0, WS ⟨P, w, K, p :: O, bag, H0⟩ ts ρ n { nx := fun n1 ρ1 => WN P w K O bag p C dx us (ρ1.map forget) n1 ks Φ, rt := fun _ _ => False }) : WN P w K O bag p C dx (tSeq ts us) ρ n ks Φ := fun H σ fs Dn hp pO hf E q => by
  refine h H (fun _ => none) [] σ H { Dn with nx := us Dn } E { nx := fun L n1 H1 σ1 ρ1 E1 hn => ?_, rt := fun _ _ _ _ _ _ _ h => h.elim, bk := fun _ _ _ _ _ _ h => h.elim, ct := fun _ _ _ _ _ _ h => h.elim }
  have pB : p ∉ bagB bag := fun z => by
    obtain ⟨q, hq⟩ := (mem_B (c := ⟨P, w, K, p :: O, bag, H⟩)).mp z
    obtain ⟨xs, hx⟩ := (E.bag p q hq).lst
    rw [hp] at hx; cases hx
  have hp1 : H1 p = some (.ins C dx fs) := (hid_some.mp (E1.base p _ (hid_some.mpr ⟨pB, hp⟩))).2
  have bO : ∀ a, a ∈ bagB bag → a ∈ p :: O := fun a ha => E.inO (show a ∈ (⟨P, w, K, p :: O, bag, H⟩ : Ctx).B from ha)
  have s0 : Same (hid (p :: O) H) (hid (p :: O) H1) := same_hid_more bO E1.base
  obtain ⟨Ls, sl, sb⟩ := E1.slots
  refine hn H1 σ1 fs Dn hp1 pO (hf.mono s0) ?_ fun σ' fs' ks' n' H' s' b' hp' hf' kk' => q σ' fs' ks' n' H' ((same_hid_more (fun a ha => List.mem_cons_of_mem _ ha) E1.base).trans s') b' hp' hf' kk'
  exact { nd := List.nodup_nil, fresh := (fun l hl => nomatch hl), slots := ⟨[], sl.forget.move (fun l hl => nomatch hl) (same_hid_sub fun a ha => List.mem_append_right _ ha), List.Sublist.refl _⟩, lst := (fun l hl => nomatch hl), bag := E1.bag, base := Same.refl _,
          pers := (fun _ _ e => nomatch e), bO := E1.bO, al := E1.al }
theorem wn_assoc (h : WN P w K O bag p C dx (tSeq (tSeq ts us) vs) ρ n ks Φ) : WN P w K O bag p C dx (tSeq ts (tSeq us vs)) ρ n ks Φ := h
end
end L3
namespace Toy
open PySem L2 L3
local macro_rules | `(tactic| walk_at "we1") => `(tactic| first
  | ((with_reducible refine' we_var ?hv ?_); (case hv => rfl))
  | (with_reducible refine we_int ?_)
  | (with_reducible refine we_str ?_)
  | (with_reducible refine we_bl ?_)
  | (with_reducible refine we_non ?_)
  | ((with_reducible refine' we_dix ?hv ?_); (case hv => rfl))
  | (with_reducible refine we_op ?_)
  | ((with_reducible refine' we_dget ?hv ?_); (case hv => rfl))
  | (with_reducible refine we_count ?_)
  | (with_reducible refine we_cb ?_)
  | (with_reducible refine we_call0 ?_)
  | (with_reducible refine we_tup ?_)
  | (with_reducible refine we_lst ?_)
  | (with_reducible refine we_if ?_)
  | (with_reducible refine we_not ?_)
  | (with_reducible refine we_and ?_)
  | (with_reducible refine we_or ?_)
  | (with_reducible refine we_isN ?_)
  | (with_reducible refine we_notN ?_)
  | (with_reducible refine we_sl ?_)
  | (with_reducible refine wa_cons ?_)
  | (with_reducible refine wa_nil ?_)
  | (with_reducible refine wt_test ?_)
  | (with_reducible refine wt_B ?_)
  | (with_reducible refine wt_and ?_)
  | (with_reducible refine wt_or ?_)
  | (with_reducible refine wt_not ?_)
  | (with_reducible refine wt_yes ?_)
  | (with_reducible refine wo_none ?_)
  | (with_reducible refine wo_some ?_)
  | ((with_reducible refine' r2_ix ?hx ?_); (case hx => rfl))
  | (with_reducible refine r2_isN ?_)
  | (with_reducible refine r2_notN ?_)
  | (with_reducible refine r2_lt ?_)
  | (with_reducible refine r2_le ?_)
  | (with_reducible refine r2_gt ?_)
  | (with_reducible refine r2_ge ?_)
  | (with_reducible refine r2_sub ?_)
  | (with_reducible refine r2_addI ?_)
  | (with_reducible refine r2_eqI ?_)
  | (with_reducible refine r2_neI ?_)
  | (with_reducible refine rc_int ?_)
  | (with_reducible refine rc_abs ?_)
  | ((with_reducible refine' rc_len ?hl ?_); (case hl => rfl))
  | (with_reducible refine wi_seq ?_)
  | (with_reducible refine wi_rng1 ?_)
  | (with_reducible refine wi_rng2 ?_)
  | (with_reducible refine wi_enum ?_)
  | (refine ⟨_, rfl, ?_⟩))
local macro_rules | `(tactic| walk_at "ws1") => `(tactic| first
  | (with_reducible refine ws_seq ?_)
  | (with_reducible refine ws_set ?_)
  | (with_reducible refine ws_ret ?_)
  | (with_reducible refine ws_if ?_)
  | (with_reducible refine ws_next ?_)
  | (with_reducible refine ws_asg ?_))
local macro_rules | `(tactic| walk_at "wg1") => `(tactic| first
  | (with_reducible refine wg_name (rw_name (by decide)) ?_)
  | (with_reducible refine wg_name (fun _ _ => trivial) ?_)
  | ((with_reducible refine' wg_tup ?hl ?_); (case hl => rfl))
  | (with_reducible refine wgs_cons rw_trans ?_)
  | (with_reducible refine wgs_nil rw_refl ?_)
  | (with_reducible refine wgs_cons (fun _ _ _ _ _ => trivial) ?_)
  | (with_reducible refine wgs_nil (fun _ => trivial) ?_))
local macro_rules | `(tactic| walk_at "go") => `(tactic| repeat' (first | walk_at "we1" | walk_at "wg1"))
section
variable {P : Program} {w : World} {K : PySem.W.Frag} {mg : Str → Option Value} {base : Heap}
/-! an order -/
def goodEvs (es : List Toy.Ev) : Prop := es.length ≤ 12 ∧ ∀ i e, es[i]? = some e → goodEv ((es.take i).map Toy.Ev.nm) e
def ordF (CE : Addr) (es : List Toy.Ev) : List (Str × D) := [("events", .tup (es.map (evD CE)))]
abbrev ordD (C CE : Addr) (es : List Toy.Ev) : D := .obj C (ordF CE es)
structure OrT (K : PySem.W.Frag) (C : Addr) : Prop where
  cl : Cls K C
  n1 : NoAttr K C "events"
def spOrder (CE : Addr) : SpecI := fun bag n ds Φ => ∃ (es : List Toy.Ev), ds = [.lst (es.map (evD CE))] ∧ goodEvs es ∧ Φ n (ordF CE es)
structure Txt4 (mg : Str → Option Value) (tM : Tok) : Prop where
  b : Txt mg
  c_MOST_EVENTS : mg "MOST_EVENTS" = some (.int 12 tM)
abbrev s_Order___init : Stmt := inClass (top 15) 0
abbrev N_Order___init : List Str := ["self", "events", "elder", "event", "fault"]
theorem sc_Order___init : FnScope N_Order___init ["self", "events"] (defScope s_Order___init) := ⟨rfl, rfl, rfl, by decide +kernel, rfl, by decide +kernel, by decide +kernel⟩

theorem ok_order {f C CE : Addr} {fd : FuncData} {tM : Tok} (F : Fun K "__init__" "Order.__init__" s_Order___init f fd) (T4 : Txt4 mg tM) (TO : OrT K C) (TE : EvT K CE) (D_event_fault : Dn P w K mg base "event_fault" 2 ["event", "elder"] [] [] (spFault CE)) : FnOk P w K mg base CX0 3 f fd ["self", "events"] (spI K C (spOrder CE)) := by
  refine fn_I F sc_Order___init (fun bag n ds Φ h => ?_) (fun cdv A outer s H E O bag n ds Φ p dx hr h => ?_)
  · obtain ⟨e, he, _⟩ := h
    rw [he]; rfl
  · obtain ⟨es, he, ⟨h12, hg⟩, kk⟩ := h
    subst he
    have T := T4.b
    refine ⟨_, (pss_cons (ps_set (i := 1) sc_Order___init.nd rfl (Or.inl rfl) (pe_callTy (x_tup K) (by rfl) T.b_tuple (by decide +kernel) (pa_cons (pv 1) pa_nil)))
  (pss_cons (ps_if (pt_cmpR op_gt (pe_callB (x_len K) (by rfl) T.b_len (by decide +kernel) (pa_cons (pv 1) pa_nil)) (pe_glob (v := (.int _)) (by rfl) T4.c_MOST_EVENTS ⟨_, rfl⟩) (nomark _)) (pss_one L3.ps_never) pss_nil)
  (pss_cons (ps_set (i := 2) sc_Order___init.nd rfl (Or.inl rfl) (pe_lst pa_nil))
  (pss_cons (ps_for PassesOwn.never rfl (x_seq K (pv 1)) (pg_name (i := 3) sc_Order___init.nd rfl (Or.inl rfl)) (pss_cons (ps_set (i := 4) sc_Order___init.nd rfl (Or.inl rfl) (pe_call D_event_fault.G (hr.mono (by decide)) (by rfl) D_event_fault.m D_event_fault.k D_event_fault.b D_event_fault.v pass0 (pa_cons (pv 3) (pa_cons (pv 2) pa_nil))))
  (pss_cons (ps_if (pt_cmpR op_notN1 (pv 4) pe_non (nomark _)) (pss_one L3.ps_never) pss_nil)
  (pss_one (ps_expr (pe_bm PySem.F.plainAttrs_list PySem.F.slot_list_append PySem.F.type_list_append mt_append (pv 2) (pa_cons (x_fld K (pe_fld (pv 3) rfl)) pa_nil)))))))
  (pss_one (x_sfld K (ps_fld (pv 0) (pv 1) rfl))))))), ?_⟩
    show WN _ _ _ _ _ _ _ _ _ [.val (.adr p), .val (.lst (es.map (evD CE))), .un, .un, .un] n [] _
    refine wn_assoc (wn_assoc (wn_assoc (wn_preF fun H0 => ?_)))
    walk_at "ws1"
    walk_at "ws1"
    walk_at "ws1"
    walk_at "ws1"
    walk_at "go"
    refine rc_tup rfl ?_
    walk_at "ws1"
    walk_at "go"
    refine decF (by rw [List.length_map]; omega) ?_
    walk_at "ws1"
    refine ws_own (i := 2) (Nat.le_of_ble_eq_true rfl) (wf_lst (wa_nil ⟨Nat.zero_le _, ?_⟩))
    refine ws_for ?_
    walk_at "we1"
    walk_at "we1"
    refine ⟨_, rfl, fun i m ρ => m = n ∧ ∃ x3 x4, ρ = [.val (.adr p), .val (.tup (es.map (evD CE))), .own (((es.take i).map Toy.Ev.nm).map .str), x3, x4], ⟨rfl, _, _, rfl⟩, ?_, ?_⟩
    · rintro i m ρ1 d hd ⟨rfl, x3, x4, rfl⟩
      obtain ⟨e, hee, rfl, hm, tk⟩ := map_at hd
      have ge := hg i e hee
      have hl : ((es.take i).map Toy.Ev.nm).length ≤ 12 := by rw [List.length_map, List.length_take]; omega
      have hf : ∀ x ∈ (es.take i).map Toy.Ev.nm, fit (.str x) = true := fun x hx => by
        obtain ⟨e', he', rfl⟩ := List.mem_map.mp hx
        obtain ⟨j, hj⟩ := List.getElem?_of_mem (List.mem_of_mem_take he')
        exact (hg j e' hj).2.2.2.2.2.2.2.2.1
      walk_at "wg1"
      walk_at "ws1"
      refine ws_set (we_look 2 rfl ?_)
      walk_at "go"
      refine ⟨e, _, rfl, ge, by omega, hf, rfl, ?_⟩
      walk_at "ws1"
      walk_at "ws1"
      walk_at "go"
      refine itF rfl ?_
      walk_at "ws1"
      refine ws_append (i := 2) (ds := ((es.take i).map Toy.Ev.nm).map .str) rfl ?_
      refine we_fld TE.cl TE.n1 ?_
      walk_at "go"
      refine ⟨by rw [List.length_map, sizeLine_eq]; omega, rfl, .val (evD CE e), .val .non, ?_⟩
      rw [tk, List.map_append, List.map_append]; rfl
    · rintro m ρ1 ⟨rfl, x3, x4, rfl⟩
      refine wn_st TO.cl TO.n1 (by decide) rfl fun H0 => ?_
      walk_at "go"
      exact kk
end
end Toy
namespace Toy
open PySem L2 L3
/-! ### the data: entries, copies -/
structure Ent where
  nm : Str
  ks : List Int
  v : Int
  deriving DecidableEq
def entD (e : Ent) : D := .tup [.str e.nm, .tup (e.ks.map .int), .int e.v]
def copyD (es : List Ent) : D := .tup (es.map entD)
def keyO : Option (List Int) → D
  | none => .non
  | some ks => .tup (ks.map .int)
/-- what fits the model: names without odd signs, keys not too long -/
def okE (e : Ent) : Prop := fit (entD e) = true ∧ keyD (entD e) = true
theorem eq_ints : ∀ (a b : List Int), PyData.eqvAll (dpyAll (a.map D.int)) (dpyAll (b.map D.int)) = decide (a = b)
  | [], [] => by simp [dpyAll, PyData.eqvAll]
  | [], _ :: _ => by simp [dpyAll, PyData.eqvAll]
  | _ :: _, [] => by simp [dpyAll, PyData.eqvAll]
  | x :: a, y :: b => by
    have ih := eq_ints a b
    show ((x == y) && PyData.eqvAll (dpyAll (a.map D.int)) (dpyAll (b.map D.int))) = _
    rw [ih]
    by_cases h : x = y
    · subst h; by_cases h2 : a = b <;> simp [h2]
    · simp [h]
theorem eq_str (a b : Str) : eqD (.str a) (.str b) = decide (a = b) := by
  show (a == b) = decide (a = b)
  by_cases h : a = b <;> simp [h]
theorem eq_tupI (a b : List Int) : eqD (.tup (a.map .int)) (.tup (b.map .int)) = decide (a = b) := eq_ints a b
theorem eq_ent (a b : Ent) : eqD (entD a) (entD b) = decide (a = b) := by
  have h1 : eqD (entD a) (entD b) = ((a.nm == b.nm) && (PyData.eqvAll (dpyAll (a.ks.map D.int)) (dpyAll (b.ks.map D.int)) && ((a.v == b.v) && true))) := rfl
  rw [h1, eq_ints]
  obtain ⟨n1, k1, v1⟩ := a
  obtain ⟨n2, k2, v2⟩ := b
  by_cases e1 : n1 = n2 <;> by_cases e2 : k1 = k2 <;> by_cases e3 : v1 = v2 <;> simp [e1, e2, e3]
theorem fitAll_mem {ds : List D} {d : D} (h : fit (.tup ds) = true) (hd : d ∈ ds) : fit d = true := by
  have hp := fit_p h
  have hs := fit_s h
  unfold fit
  rw [Bool.and_eq_true]
  refine ⟨plainAll_mem hp hd, ?_⟩
  unfold SeqAt.shaped at hs ⊢
  rw [Bool.and_eq_true] at hs ⊢
  have hc : PyData.canLayAll0 (dpyAll ds) = true := hs.1
  have hdp : PyData.depthAll (dpyAll ds) + 1 ≤ 64 := of_decide_eq_true hs.2
  have key : ∀ ds : List D, d ∈ ds → PyData.canLayAll0 (dpyAll ds) = true → PyData.canLay0 (dpy d) = true ∧ PyData.depth (dpy d) ≤ PyData.depthAll (dpyAll ds) := by
    intro ds
    induction ds with
    | nil => intro q; cases q
    | cons x xs ih =>
      intro q hc
      have hc' : (PyData.canLay0 (dpy x) && PyData.canLayAll0 (dpyAll xs)) = true := hc
      rw [Bool.and_eq_true] at hc'
      show _ ∧ _ ≤ max (PyData.depth (dpy x)) (PyData.depthAll (dpyAll xs))
      rcases List.mem_cons.mp q with e | e
      · rw [e]; exact ⟨hc'.1, by omega⟩
      · obtain ⟨g1, g2⟩ := ih e hc'.2
        exact ⟨g1, by omega⟩
  obtain ⟨g1, g2⟩ := key ds hd hc
  exact ⟨g1, decide_eq_true (by omega)⟩
theorem ok_nm {e : Ent} (h : okE e) : fit (.str e.nm) = true := fitAll_mem h.1 (by simp)
theorem ok_ks {e : Ent} (h : okE e) : fit (.tup (e.ks.map .int)) = true := fitAll_mem h.1 (by simp)
/-! ### plain lists -/
section
variable {α : Type} [DecidableEq α]
def firsts (l : List α) : List α := l.foldl (fun acc x => if x ∈ acc then acc else acc ++ [x]) []
theorem firsts_snoc (l : List α) (x : α) : firsts (l ++ [x]) = if x ∈ firsts l then firsts l else firsts l ++ [x] := by
  unfold firsts
  rw [List.foldl_append]; rfl
theorem snoc_ind {P : List α → Prop} (h0 : P []) (h1 : ∀ l x, P l → P (l ++ [x])) (l : List α) : P l := by
  have : ∀ m : List α, P m.reverse := by
    intro m
    induction m with
    | nil => exact h0
    | cons x m ih => rw [List.reverse_cons]; exact h1 _ _ ih
  have q := this l.reverse
  rw [List.reverse_reverse] at q
  exact q
theorem mem_firsts (l : List α) : ∀ x, x ∈ firsts l ↔ x ∈ l := by
  refine snoc_ind (P := fun l => ∀ x, x ∈ firsts l ↔ x ∈ l) (fun x => Iff.rfl) (fun l y ih x => ?_) l
  rw [firsts_snoc]
  by_cases h : y ∈ firsts l
  · rw [if_pos h, ih]
    constructor
    · exact fun q => List.mem_append_left _ q
    · intro q
      rcases List.mem_append.mp q with q | q
      · exact q
      · rw [List.mem_singleton.mp q]; exact (ih y).mp h
  · rw [if_neg h]
    simp [ih]
theorem nodup_firsts (l : List α) : (firsts l).Nodup := by
  refine snoc_ind (P := fun l => (firsts l).Nodup) List.nodup_nil (fun l y ih => ?_) l
  rw [firsts_snoc]
  by_cases h : y ∈ firsts l
  · rw [if_pos h]; exact ih
  · rw [if_neg h]
    exact List.nodup_append.mpr ⟨ih, by simp, fun a ha b hb => by rw [List.mem_singleton.mp hb]; exact fun e => h (e ▸ ha)⟩
theorem firsts_le (l : List α) : (firsts l).length ≤ l.length := by
  refine snoc_ind (P := fun l => (firsts l).length ≤ l.length) (Nat.le_refl _) (fun l y ih => ?_) l
  rw [firsts_snoc, List.length_append]
  by_cases h : y ∈ firsts l
  · rw [if_pos h]; simp; omega
  · rw [if_neg h, List.length_append]; simp; omega
/-- those that do not stand earlier -/
def earliest : List α → List α → List α
  | _, [] => []
  | pre, x :: l => if x ∈ pre then earliest (pre ++ [x]) l else x :: earliest (pre ++ [x]) l
theorem mem_earliest : ∀ (l pre : List α) (x : α), x ∈ earliest pre l ↔ x ∈ l ∧ x ∉ pre
  | [], pre, x => by simp [earliest]
  | y :: l, pre, x => by
    unfold earliest
    have ih := mem_earliest l (pre ++ [y]) x
    by_cases h : y ∈ pre
    · rw [if_pos h, ih]
      constructor
      · rintro ⟨a, b⟩
        exact ⟨List.mem_cons_of_mem _ a, fun q => b (List.mem_append_left _ q)⟩
      · rintro ⟨a, b⟩
        have ne : x ≠ y := fun e => b (e ▸ h)
        refine ⟨(List.mem_cons.mp a).resolve_left ne, fun q => ?_⟩
        rcases List.mem_append.mp q with q | q
        · exact b q
        · exact ne (List.mem_singleton.mp q)
    · rw [if_neg h, List.mem_cons, ih]
      constructor
      · rintro (e | ⟨a, b⟩)
        · subst e; exact ⟨List.mem_cons_self, h⟩
        · exact ⟨List.mem_cons_of_mem _ a, fun q => b (List.mem_append_left _ q)⟩
      · rintro ⟨a, b⟩
        by_cases e : x = y
        · exact .inl e
        · refine .inr ⟨(List.mem_cons.mp a).resolve_left e, fun q => ?_⟩
          rcases List.mem_append.mp q with q | q
          · exact b q
          · exact e (List.mem_singleton.mp q)
theorem nodup_earliest : ∀ (l pre : List α), (earliest pre l).Nodup
  | [], _ => List.nodup_nil
  | y :: l, pre => by
    unfold earliest
    by_cases h : y ∈ pre
    · rw [if_pos h]; exact nodup_earliest l _
    · rw [if_neg h]
      exact List.nodup_cons.mpr ⟨fun q => ((mem_earliest l _ _).mp q).2 (by simp), nodup_earliest l _⟩
theorem sub_earliest : ∀ (l pre : List α), (earliest pre l).Sublist l
  | [], _ => List.Sublist.refl _
  | y :: l, pre => by
    unfold earliest
    by_cases h : y ∈ pre
    · rw [if_pos h]; exact (sub_earliest l _).cons _
    · rw [if_neg h]; exact (sub_earliest l _).cons_cons _
end
/-! ### the order of entries -/
abbrev leE (a b : Ent) : Bool := LeD (entD a) (entD b)
def sortE (E : List Ent) : List Ent := E.mergeSort leE
theorem total_D : PySem.W.TotalLe LeD := PySem.W.sortLe_total _ _ _
theorem total_E : PySem.W.TotalLe leE := ⟨fun a b c h1 h2 => total_D.trans _ _ _ h1 h2, fun a b => total_D.total _ _⟩
theorem toks_ints : ∀ (a b : List Int) (A B : List (Int ⊕ List Nat)), PySem.W.keyToksAll (dpyAll (a.map D.int)) ++ A = PySem.W.keyToksAll (dpyAll (b.map D.int)) ++ B → a = b ∧ A = B
  | [], [], A, B, h => by
    have h' : Sum.inl 0 :: A = Sum.inl 0 :: B := h
    exact ⟨rfl, (List.cons.inj h').2⟩
  | [], y :: b, A, B, h => by
    have h' : (Sum.inl 0 : Int ⊕ List Nat) :: A = Sum.inl 1 :: (Sum.inl y :: (PySem.W.keyToksAll (dpyAll (b.map D.int)) ++ B)) := h
    exact absurd (Sum.inl.inj (List.cons.inj h').1) (by decide)
  | x :: a, [], A, B, h => by
    have h' : (Sum.inl 1 : Int ⊕ List Nat) :: (Sum.inl x :: (PySem.W.keyToksAll (dpyAll (a.map D.int)) ++ A)) = Sum.inl 0 :: B := h
    exact absurd (Sum.inl.inj (List.cons.inj h').1) (by decide)
  | x :: a, y :: b, A, B, h => by
    have h' : (Sum.inl 1 : Int ⊕ List Nat) :: (Sum.inl x :: (PySem.W.keyToksAll (dpyAll (a.map D.int)) ++ A)) = Sum.inl 1 :: (Sum.inl y :: (PySem.W.keyToksAll (dpyAll (b.map D.int)) ++ B)) := h
    have h1 := (List.cons.inj h').2
    have h2 := List.cons.inj h1
    obtain ⟨e1, e2⟩ := toks_ints a b A B h2.2
    exact ⟨by rw [Sum.inl.inj h2.1, e1], e2⟩
theorem anti_E (a b : Ent) (h1 : leE a b = true) (h2 : leE b a = true) : a = b := by
  have h1' : (!PySem.W.dataLt (dpy (entD b)) (dpy (entD a))) = true := h1
  have h2' : (!PySem.W.dataLt (dpy (entD a)) (dpy (entD b))) = true := h2
  have h1'' : PySem.W.dataLt (dpy (entD b)) (dpy (entD a)) = false := by simpa using h1'
  have h2'' : PySem.W.dataLt (dpy (entD a)) (dpy (entD b)) = false := by simpa using h2'
  have e : PySem.W.keyToks (dpy (entD a)) = PySem.W.keyToks (dpy (entD b)) := (PyProof.Rows.listOrd PyProof.Rows.itemOrd).total _ _ h2'' h1''
  have e' : Sum.inl 1 :: Sum.inr a.nm.cps.toList :: Sum.inl 1 :: (PySem.W.keyToksAll (dpyAll (a.ks.map D.int)) ++ (Sum.inl 1 :: Sum.inl a.v :: [Sum.inl 0])) = (Sum.inl 1 :: Sum.inr b.nm.cps.toList :: Sum.inl 1 :: (PySem.W.keyToksAll (dpyAll (b.ks.map D.int)) ++ (Sum.inl 1 :: Sum.inl b.v :: [Sum.inl 0])) : List (Int ⊕ List Nat)) := e
  have e1 := List.cons.inj (List.cons.inj e').2
  obtain ⟨g1, g2⟩ := toks_ints _ _ _ _ (List.cons.inj e1.2).2
  have g3 := List.cons.inj (List.cons.inj g2).2
  obtain ⟨n1, k1, v1⟩ := a
  obtain ⟨n2, k2, v2⟩ := b
  have q1 : n1 = n2 := PySem.W.str_of_cps (Sum.inr.inj e1.1)
  have q2 : k1 = k2 := g1
  have q3 : v1 = v2 := Sum.inl.inj g3.1
  rw [q1, q2, q3]
theorem sortE_perm (E : List Ent) : (sortE E).Perm E := List.mergeSort_perm _ _
theorem sortE_sorted (E : List Ent) : (sortE E).Pairwise fun a b => leE a b = true := PySem.W.sort_pairwise total_E E
/-- two rising rows with the same, each once, are one -/
theorem one_row {l m : List Ent} (h1 : l.Pairwise fun a b => leE a b = true) (h2 : m.Pairwise fun a b => leE a b = true) (n1 : l.Nodup) (n2 : m.Nodup) (e : ∀ x, x ∈ l ↔ x ∈ m) : l = m := by
  have p : l.Perm m := (List.perm_ext_iff_of_nodup n1 n2).mpr e
  exact p.eq_of_pairwise (fun a b _ _ x y => anti_E a b x y) h1 h2
theorem earliest_sort (E : List Ent) : earliest [] (sortE E) = sortE (firsts E) := by
  refine one_row ((sortE_sorted E).sublist (sub_earliest _ _)) (sortE_sorted _) (nodup_earliest _ _) ((sortE_perm _).nodup_iff.mpr (nodup_firsts E)) fun x => ?_
  rw [mem_earliest, (sortE_perm E).mem_iff, (sortE_perm (firsts E)).mem_iff, mem_firsts]
  simp
theorem sortD_ent (E : List Ent) : sortD (E.map entD) = (sortE E).map entD := (PySem.W.sort_maps (r := leE) (s := LeD) entD fun _ _ _ _ => rfl).symm
theorem alike_E (E : List Ent) : PySem.W.AllAlike ((E.map entD).map dpy) := by
  rw [List.map_map]
  refine PySem.W.AllAlike.of fun a b => ?_
  have h : PySem.W.alike (dpy (entD a)) (dpy (entD b)) = (true && (PySem.W.alikeAll (dpyAll (a.ks.map D.int)) (dpyAll (b.ks.map D.int)) && (true && true))) := rfl
  show PySem.W.alike (dpy (entD a)) (dpy (entD b)) = true
  rw [h, dpyAll_map, dpyAll_map, List.map_map, List.map_map]
  have := PySem.W.alike_ints a.ks b.ks
  have e : (dpy ∘ D.int) = PyData.int := rfl
  rw [e, this]; rfl
theorem sortable_E (E : List Ent) : PySem.W.Sortable ((E.map entD).map dpy) := by
  rw [List.map_map]
  exact PySem.W.Sortable.tuples fun b => ⟨_, _, rfl⟩
theorem depth_E (e : Ent) : (dpy (entD e)).depth ≤ 2 := by
  have h : (dpy (entD e)).depth = max 0 (max (PyData.depthAll (dpyAll (e.ks.map D.int)) + 1) (max 0 0)) + 1 := rfl
  have h2 : PyData.depthAll (dpyAll (e.ks.map D.int)) = 0 := by
    rw [dpyAll_map, List.map_map]
    exact PySem.W.depth_ints e.ks
  rw [h, h2]; decide
theorem fit_ents {E : List Ent} (h : ∀ e ∈ E, okE e) : fit (.lst (E.map entD)) = true := (fit_list fun d hd => by
  obtain ⟨e, he, rfl⟩ := List.mem_map.mp hd
  exact ⟨(h e he).1, Nat.le_trans (depth_E e) (by decide)⟩).1
theorem plain_ents (E : List Ent) : plainAll (E.map entD) = true := by
  have hInts : ∀ ks : List Int, plainAll (ks.map D.int) = true := fun ks => by
    induction ks with
    | nil => rfl
    | cons k ks ih => show (true && plainAll (ks.map D.int)) = true; rw [ih]; rfl
  induction E with
  | nil => rfl
  | cons e E ih =>
    have h : plainAll ((e :: E).map entD) = ((true && (plainAll (e.ks.map D.int) && (true && true))) && plainAll (E.map entD)) := rfl
    rw [h, hInts, ih]; rfl
theorem inD_ent (e : Ent) (E : List Ent) : inD (entD e) (E.map entD) = decide (e ∈ E) := by
  unfold inD
  rw [List.any_map]
  by_cases h : e ∈ E
  · rw [decide_eq_true h]
    exact List.any_eq_true.mpr ⟨e, h, by show eqD (entD e) (entD e) = true; rw [eq_ent]; simp⟩
  · rw [decide_eq_false h]
    refine List.any_eq_false.mpr fun x hx => ?_
    show ¬ eqD (entD x) (entD e) = true
    rw [eq_ent]
    simp only [decide_eq_true_eq]
    exact fun q => h (q ▸ hx)
theorem count_ent (e : Ent) (E : List Ent) : (E.map entD).countP (fun z => eqD z (entD e)) = E.count e := by
  rw [List.countP_map]
  unfold List.count
  refine List.countP_congr fun x _ => ?_
  show eqD (entD x) (entD e) = true ↔ (x == e) = true
  rw [eq_ent]; simp
/-! ### the dict of numbers -/
theorem nk_ints : ∀ (a b : List Int), nkAll (a.map D.int) = nkAll (b.map D.int) → a = b
  | [], [], _ => rfl
  | [], _ :: _, h => by cases h
  | _ :: _, [], h => by cases h
  | x :: a, y :: b, h => by
    have h' : NestedKey.num x :: nkAll (a.map D.int) = NestedKey.num y :: nkAll (b.map D.int) := h
    obtain ⟨h1, h2⟩ := List.cons.inj h'
    rw [NestedKey.num.inj h1, nk_ints a b h2]
theorem nk_ent (a b : Ent) : nk (entD a) = nk (entD b) ↔ a = b := by
  constructor
  · intro h
    have h' : NestedKey.tup [.text a.nm, .tup (nkAll (a.ks.map D.int)), .num a.v] = NestedKey.tup [.text b.nm, .tup (nkAll (b.ks.map D.int)), .num b.v] := h
    have h1 := NestedKey.tup.inj h'
    have h2 := List.cons.inj h1
    have h3 := List.cons.inj h2.2
    have h4 := List.cons.inj h3.2
    obtain ⟨n1, k1, v1⟩ := a
    obtain ⟨n2, k2, v2⟩ := b
    have q1 : n1 = n2 := NestedKey.text.inj h2.1
    have q2 : k1 = k2 := nk_ints _ _ (NestedKey.tup.inj h3.1)
    have q3 : v1 = v2 := NestedKey.num.inj h4.1
    rw [q1, q2, q3]
  · intro h; rw [h]
def kvOf (E : List Ent) : List (D × D) := (firsts E).map fun e => (entD e, D.int (E.count e : Nat))
theorem look_map (f : Ent → D) (x : Ent) : ∀ (l : List Ent), lookD (l.map fun e => (entD e, f e)) (entD x) = if x ∈ l then some (f x) else none
  | [] => rfl
  | y :: l => by
    have ih := look_map f x l
    unfold lookD at ih ⊢
    rw [List.map_cons]
    by_cases h : y = x
    · subst h
      rw [List.find?_cons_of_pos (by simp), if_pos List.mem_cons_self]; rfl
    · rw [List.find?_cons_of_neg (by simpa [nk_ent] using h), ih]
      have : (x ∈ y :: l) ↔ x ∈ l := by
        rw [List.mem_cons]
        exact ⟨fun q => q.resolve_left fun e => h e.symm, .inr⟩
      by_cases q : x ∈ l
      · rw [if_pos q, if_pos (this.mpr q)]
      · rw [if_neg q, if_neg fun z => q (this.mp z)]
theorem look_kv (E : List Ent) (x : Ent) : lookD (kvOf E) (entD x) = if x ∈ E then some (.int (E.count x : Nat)) else none := by
  unfold kvOf
  rw [look_map (fun e => D.int (E.count e : Nat))]
  by_cases h : x ∈ E
  · rw [if_pos h, if_pos ((mem_firsts E x).mpr h)]
  · rw [if_neg h, if_neg fun q => h ((mem_firsts E x).mp q)]
theorem get_kv (E : List Ent) (x : Ent) : (lookD (kvOf E) (entD x)).getD (.int 0) = .int (E.count x : Nat) := by
  rw [look_kv]
  by_cases h : x ∈ E
  · rw [if_pos h]; rfl
  · rw [if_neg h, List.count_eq_zero_of_not_mem h]; rfl
theorem put_kv (E : List Ent) (x : Ent) : putD (kvOf E) (entD x) (.int ((E.count x : Nat) + 1)) = kvOf (E ++ [x]) := by
  unfold putD
  rw [look_kv]
  have cnt : ∀ e : Ent, (E ++ [x]).count e = E.count e + if x = e then 1 else 0 := fun e => by
    rw [List.count_append, List.count_singleton]
    by_cases h : x = e <;> simp [h]
  by_cases h : x ∈ E
  · rw [if_pos h]
    show List.map _ (kvOf E) = _
    unfold kvOf
    rw [firsts_snoc, if_pos ((mem_firsts E x).mpr h), List.map_map]
    refine List.map_congr_left fun e _ => ?_
    show (if nk (entD e) = nk (entD x) then (entD e, D.int ((E.count x : Nat) + 1)) else (entD e, D.int (E.count e : Nat))) = (entD e, D.int ((E ++ [x]).count e : Nat))
    rw [cnt]
    by_cases q : e = x
    · subst q
      rw [if_pos rfl, if_pos rfl]; rfl
    · rw [if_neg fun z => q ((nk_ent _ _).mp z), if_neg fun z => q z.symm]; rfl
  · rw [if_neg h]
    show kvOf E ++ [(entD x, D.int ((E.count x : Nat) + 1))] = _
    unfold kvOf
    rw [firsts_snoc, if_neg fun q => h ((mem_firsts E x).mp q), List.map_append]
    congr 1
    · refine List.map_congr_left fun e he => ?_
      rw [cnt, if_neg fun z => h (by rw [z]; exact (mem_firsts E e).mp he)]; rfl
    · show [(entD x, D.int ((E.count x : Nat) + 1))] = [(entD x, D.int ((E ++ [x]).count x : Nat))]
      rw [cnt, if_pos rfl]; rfl
theorem kv_keys (E : List Ent) : (kvOf E).map (·.1) = (firsts E).map entD := by
  unfold kvOf
  rw [List.map_map]; rfl
theorem plain_ints : ∀ ks : List Int, plainAll (ks.map D.int) = true
  | [] => rfl
  | k :: ks => by show (true && plainAll (ks.map D.int)) = true; rw [plain_ints ks]; rfl
theorem can_ints : ∀ ks : List Int, PyData.canLayAll0 (dpyAll (ks.map D.int)) = true
  | [] => rfl
  | k :: ks => by show (true && PyData.canLayAll0 (dpyAll (ks.map D.int))) = true; rw [can_ints ks]; rfl
theorem key_ints : ∀ ks : List Int, nkOkAll (ks.map D.int) = true
  | [] => rfl
  | k :: ks => by show (true && nkOkAll (ks.map D.int)) = true; rw [key_ints ks]; rfl
theorem dep_ints : ∀ ks : List Int, PyData.depthAll (dpyAll (ks.map D.int)) = 0
  | [] => rfl
  | k :: ks => by show max 0 (PyData.depthAll (dpyAll (ks.map D.int))) = 0; rw [dep_ints ks]; rfl
theorem ndep_ints : ∀ ks : List Int, NestedKey.depthAll (nkAll (ks.map D.int)) = 0
  | [] => rfl
  | k :: ks => by show max 0 (NestedKey.depthAll (nkAll (ks.map D.int))) = 0; rw [ndep_ints ks]; rfl
theorem fit_ints (ks : List Int) : fit (.tup (ks.map D.int)) = true := by
  have h : fit (.tup (ks.map D.int)) = (plainAll (ks.map D.int) && (PyData.canLayAll0 (dpyAll (ks.map D.int)) && decide (PyData.depthAll (dpyAll (ks.map D.int)) + 1 ≤ 64))) := rfl
  rw [h, plain_ints, can_ints, dep_ints]; rfl
theorem ok_of {nm : Str} (hn : fit (.str nm) = true) (ks : List Int) (v : Int) : okE ⟨nm, ks, v⟩ := by
  refine ⟨(fit_list (ds := [.str nm, .tup (ks.map .int), .int v]) fun d hd => ?_).2, ?_⟩
  · rcases List.mem_cons.mp hd with e | hd
    · subst e; exact ⟨hn, Nat.zero_le _⟩
    · rcases List.mem_cons.mp hd with e | hd
      · subst e
        refine ⟨fit_ints ks, ?_⟩
        show PyData.depthAll (dpyAll (ks.map D.int)) + 1 ≤ 60
        rw [dep_ints]; decide
      · rcases List.mem_cons.mp hd with e | hd
        · subst e; exact ⟨rfl, Nat.zero_le _⟩
        · cases hd
  · have h : keyD (entD ⟨nm, ks, v⟩) = ((true && (nkOkAll (ks.map D.int) && (true && true))) && decide (max 0 (max (NestedKey.depthAll (nkAll (ks.map D.int)) + 1) (max 0 0)) + 1 ≤ 8)) := rfl
    rw [h, key_ints, ndep_ints]; rfl
end Toy
namespace Toy
open PySem L2 L3
local macro_rules | `(tactic| walk_at "we1") => `(tactic| first
  | ((with_reducible refine' we_var ?hv ?_); (case hv => rfl))
  | (with_reducible refine we_int ?_)
  | (with_reducible refine we_str ?_)
  | (with_reducible refine we_bl ?_)
  | (with_reducible refine we_non ?_)
  | ((with_reducible refine' we_dix ?hv ?_); (case hv => rfl))
  | (with_reducible refine we_op ?_)
  | ((with_reducible refine' we_dget ?hv ?_); (case hv => rfl))
  | (with_reducible refine we_count ?_)
  | (with_reducible refine we_cb ?_)
  | (with_reducible refine we_call0 ?_)
  | (with_reducible refine we_tup ?_)
  | (with_reducible refine we_lst ?_)
  | (with_reducible refine we_if ?_)
  | (with_reducible refine we_not ?_)
  | (with_reducible refine we_and ?_)
  | (with_reducible refine we_or ?_)
  | (with_reducible refine we_isN ?_)
  | (with_reducible refine we_notN ?_)
  | (with_reducible refine we_sl ?_)
  | (with_reducible refine wa_cons ?_)
  | (with_reducible refine wa_nil ?_)
  | (with_reducible refine wt_test ?_)
  | (with_reducible refine wt_B ?_)
  | (with_reducible refine wt_and ?_)
  | (with_reducible refine wt_or ?_)
  | (with_reducible refine wt_not ?_)
  | (with_reducible refine wt_yes ?_)
  | (with_reducible refine wo_none ?_)
  | (with_reducible refine wo_some ?_)
  | ((with_reducible refine' r2_ix ?hx ?_); (case hx => rfl))
  | (with_reducible refine r2_isN ?_)
  | (with_reducible refine r2_notN ?_)
  | (with_reducible refine r2_lt ?_)
  | (with_reducible refine r2_le ?_)
  | (with_reducible refine r2_gt ?_)
  | (with_reducible refine r2_ge ?_)
  | (with_reducible refine r2_sub ?_)
  | (with_reducible refine r2_addI ?_)
  | (with_reducible refine r2_eqI ?_)
  | (with_reducible refine r2_neI ?_)
  | (with_reducible refine rc_int ?_)
  | (with_reducible refine rc_abs ?_)
  | ((with_reducible refine' rc_len ?hl ?_); (case hl => rfl))
  | (with_reducible refine wi_seq ?_)
  | (with_reducible refine wi_rng1 ?_)
  | (with_reducible refine wi_rng2 ?_)
  | (with_reducible refine wi_enum ?_)
  | (refine ⟨_, rfl, ?_⟩))
local macro_rules | `(tactic| walk_at "ws1") => `(tactic| first
  | (with_reducible refine ws_seq ?_)
  | (with_reducible refine ws_set ?_)
  | (with_reducible refine ws_ret ?_)
  | (with_reducible refine ws_if ?_)
  | (with_reducible refine ws_next ?_)
  | (with_reducible refine ws_asg ?_))
local macro_rules | `(tactic| walk_at "wg1") => `(tactic| first
  | (with_reducible refine wg_name (rw_name (by decide)) ?_)
  | (with_reducible refine wg_name (fun _ _ => trivial) ?_)
  | ((with_reducible refine' wg_tup ?hl ?_); (case hl => rfl))
  | (with_reducible refine wgs_cons rw_trans ?_)
  | (with_reducible refine wgs_nil rw_refl ?_)
  | (with_reducible refine wgs_cons (fun _ _ _ _ _ => trivial) ?_)
  | (with_reducible refine wgs_nil (fun _ => trivial) ?_))
local macro_rules | `(tactic| walk_at "go") => `(tactic| repeat' (first | walk_at "we1" | walk_at "wg1"))
section
variable {P : Program} {w : World} {K : PySem.W.Frag} {mg : Str → Option Value} {base : Heap}
/-! the entry of a name and key -/
def isE (nm : Str) (ks : List Int) (e : Ent) : Bool := decide (e.nm = nm) && decide (e.ks = ks)
def findE (E : List Ent) (nm : Str) (ks : List Int) : D := match E.find? (isE nm ks) with | some e => .int e.v | none => .non
theorem findE_no {E : List Ent} {nm : Str} {ks : List Int} {e : Ent} (h : isE nm ks e = false) : findE (E ++ [e]) nm ks = findE E nm ks := by
  unfold findE
  rw [List.find?_append]
  cases q : E.find? (isE nm ks) with
  | some x => rfl
  | none => rw [Option.none_or, List.find?_cons_of_neg (by rw [h]; decide)]; rfl
theorem findE_yes {E F : List Ent} {nm : Str} {ks : List Int} {e : Ent} (hn : findE E nm ks = .non) (h : isE nm ks e = true) : findE (E ++ [e] ++ F) nm ks = .int e.v := by
  unfold findE at hn ⊢
  cases q : E.find? (isE nm ks) with
  | some x => rw [q] at hn; cases hn
  | none => rw [List.append_assoc, List.find?_append, q, Option.none_or]; show (match ([e] ++ F).find? (isE nm ks) with | some e => D.int e.v | none => .non) = _; rw [List.singleton_append, List.find?_cons_of_pos h]
def spFind : L3.Spec := fun bag n ds Φ => ∃ (E : List Ent) (nm : Str) (ks : List Int), ds = [.tup (E.map entD), .str nm, .tup (ks.map .int)] ∧ E.length ≤ 1000 ∧ (∀ e ∈ E, okE e) ∧ fit (.str nm) = true ∧ Φ n (findE E nm ks)
abbrev s_entry_value : Stmt := top 17
abbrev N_entry_value : List Str := ["table", "name", "key", "entry"]
theorem sc_entry_value : FnScope N_entry_value ["table", "name", "key"] (defScope s_entry_value) := ⟨rfl, rfl, rfl, by decide +kernel, rfl, by decide +kernel, by decide +kernel⟩

theorem ok_entry_value {f : Addr} {fd : FuncData} (F : Fun K "entry_value" "entry_value" s_entry_value f fd) (T : Txt mg) : FnOk P w K mg base CX0 1 f fd ["table", "name", "key"] (spD K spFind) := by
  refine fn_D F sc_entry_value (fun bag n ds Φ h => ?_) (fun cdv A outer s H Ex O bag n ds Φ hr h => ?_)
  · obtain ⟨E, nm, ks, e, _⟩ := h
    rw [e]; rfl
  · obtain ⟨E, nm, ks, e, hE, hok, fn, kk⟩ := h
    subst e
    refine ⟨_, (pss_cons (ps_for PassesOwn.never rfl (x_seq K (pv 0)) (pg_name (i := 3) sc_entry_value.nd rfl (Or.inl rfl)) (pss_one (ps_if (PW.pt (pw_and (pt_cmpR (x_eq K (by exact hr.units)) (pe_ix (x_ix K) (pv 3) pe_int (fun _ _ => rfl)) (pv 1) (nomark _)) (pw_and1 (pt_cmpR (x_eq K (by exact hr.units)) (pe_ix (x_ix K) (pv 3) pe_int (fun _ _ => rfl)) (pv 2) (nomark _))))) (pss_one (ps_ret (pe_ix (x_ix K) (pv 3) pe_int (fun _ _ => rfl)))) pss_nil)))
  (pss_one (ps_ret pe_non))), ?_⟩
    show WS _ _ [.val (.tup (E.map entD)), .val (.str nm), .val (.tup (ks.map .int)), .un] n _
    walk_at "ws1"
    refine ws_for ?_
    walk_at "we1"
    walk_at "we1"
    refine ⟨_, rfl, fun i m ρ => m = n ∧ findE (E.take i) nm ks = .non ∧ ∃ x3, ρ = [.val (.tup (E.map entD)), .val (.str nm), .val (.tup (ks.map .int)), x3], ⟨rfl, rfl, _, rfl⟩, ?_, ?_⟩
    · rintro i m ρ1 d hd ⟨rfl, hno, x3, rfl⟩
      obtain ⟨e, he, rfl, hm, tk⟩ := map_at hd
      have oke := hok e hm
      have keep : isE nm ks e = false → findE (E.take (i + 1)) nm ks = .non := fun h => by rw [tk, findE_no h]; exact hno
      have stop : isE nm ks e = true → findE E nm ks = .int e.v := fun h => by
        have e1 : E = E.take (i + 1) ++ E.drop (i + 1) := (List.take_append_drop _ _).symm
        rw [e1, tk]
        exact findE_yes hno h
      walk_at "go"
      refine ws_if ?_
      walk_at "go"
      refine r2_eqD (ok_nm oke) fn ?_
      rw [eq_str]
      refine ⟨_, rfl, ?_⟩
      refine dec2 (fun h1 => ?_) (fun h1 => ?_)
      · walk_at "go"
        refine r2_eqD (ok_ks oke) (fit_ints ks) ?_
        rw [eq_tupI]
        refine ⟨_, rfl, ?_⟩
        refine dec2 (fun h2 => ?_) (fun h2 => ?_)
        · walk_at "ws1"
          walk_at "go"
          rw [stop (by unfold isE; simp [h1, h2])] at kk
          exact kk
        · walk_at "ws1"
          exact ⟨rfl, keep (by unfold isE; simp [h2]), _, rfl⟩
      · refine itF rfl ?_
        walk_at "ws1"
        exact ⟨rfl, keep (by unfold isE; simp [h1]), _, rfl⟩
    · rintro m ρ1 ⟨rfl, hno, x3, rfl⟩
      rw [List.length_map, List.take_length] at hno
      walk_at "ws1"
      walk_at "go"
      rw [hno] at kk
      exact kk
abbrev s_law_find : Stmt := top 33
abbrev N_law_find : List Str := ["table", "name", "key", "entry"]
theorem sc_law_find : FnScope N_law_find ["table", "name", "key"] (defScope s_law_find) := ⟨rfl, rfl, rfl, by decide +kernel, rfl, by decide +kernel, by decide +kernel⟩

theorem ok_law_find {f : Addr} {fd : FuncData} (F : Fun K "_law_find" "_law_find" s_law_find f fd) (T : Txt mg) : FnOk P w K mg base CX0 1 f fd ["table", "name", "key"] (spD K spFind) := by
  refine fn_D F sc_law_find (fun bag n ds Φ h => ?_) (fun cdv A outer s H Ex O bag n ds Φ hr h => ?_)
  · obtain ⟨E, nm, ks, e, _⟩ := h
    rw [e]; rfl
  · obtain ⟨E, nm, ks, e, hE, hok, fn, kk⟩ := h
    subst e
    refine ⟨_, (pss_cons (ps_for PassesOwn.never rfl (x_seq K (pv 0)) (pg_name (i := 3) sc_law_find.nd rfl (Or.inl rfl)) (pss_one (ps_if (PW.pt (pw_and (pt_cmpR (x_eq K (by exact hr.units)) (pe_ix (x_ix K) (pv 3) pe_int (fun _ _ => rfl)) (pv 1) (nomark _)) (pw_and1 (pt_cmpR (x_eq K (by exact hr.units)) (pe_ix (x_ix K) (pv 3) pe_int (fun _ _ => rfl)) (pv 2) (nomark _))))) (pss_one (ps_ret (pe_ix (x_ix K) (pv 3) pe_int (fun _ _ => rfl)))) pss_nil)))
  (pss_one (ps_ret pe_non))), ?_⟩
    show WS _ _ [.val (.tup (E.map entD)), .val (.str nm), .val (.tup (ks.map .int)), .un] n _
    walk_at "ws1"
    refine ws_for ?_
    walk_at "we1"
    walk_at "we1"
    refine ⟨_, rfl, fun i m ρ => m = n ∧ findE (E.take i) nm ks = .non ∧ ∃ x3, ρ = [.val (.tup (E.map entD)), .val (.str nm), .val (.tup (ks.map .int)), x3], ⟨rfl, rfl, _, rfl⟩, ?_, ?_⟩
    · rintro i m ρ1 d hd ⟨rfl, hno, x3, rfl⟩
      obtain ⟨e, he, rfl, hm, tk⟩ := map_at hd
      have oke := hok e hm
      have keep : isE nm ks e = false → findE (E.take (i + 1)) nm ks = .non := fun h => by rw [tk, findE_no h]; exact hno
      have stop : isE nm ks e = true → findE E nm ks = .int e.v := fun h => by
        have e1 : E = E.take (i + 1) ++ E.drop (i + 1) := (List.take_append_drop _ _).symm
        rw [e1, tk]
        exact findE_yes hno h
      walk_at "go"
      refine ws_if ?_
      walk_at "go"
      refine r2_eqD (ok_nm oke) fn ?_
      rw [eq_str]
      refine ⟨_, rfl, ?_⟩
      refine dec2 (fun h1 => ?_) (fun h1 => ?_)
      · walk_at "go"
        refine r2_eqD (ok_ks oke) (fit_ints ks) ?_
        rw [eq_tupI]
        refine ⟨_, rfl, ?_⟩
        refine dec2 (fun h2 => ?_) (fun h2 => ?_)
        · walk_at "ws1"
          walk_at "go"
          rw [stop (by unfold isE; simp [h1, h2])] at kk
          exact kk
        · walk_at "ws1"
          exact ⟨rfl, keep (by unfold isE; simp [h2]), _, rfl⟩
      · refine itF rfl ?_
        walk_at "ws1"
        exact ⟨rfl, keep (by unfold isE; simp [h1]), _, rfl⟩
    · rintro m ρ1 ⟨rfl, hno, x3, rfl⟩
      rw [List.length_map, List.take_length] at hno
      walk_at "ws1"
      walk_at "go"
      rw [hno] at kk
      exact kk
end
end Toy
namespace Toy
open PySem L2 L3
local macro_rules | `(tactic| walk_at "we1") => `(tactic| first
  | ((with_reducible refine' we_var ?hv ?_); (case hv => rfl))
  | (with_reducible refine we_int ?_)
  | (with_reducible refine we_str ?_)
  | (with_reducible refine we_bl ?_)
  | (with_reducible refine we_non ?_)
  | ((with_reducible refine' we_dix ?hv ?_); (case hv => rfl))
  | (with_reducible refine we_op ?_)
  | ((with_reducible refine' we_dget ?hv ?_); (case hv => rfl))
  | (with_reducible refine we_count ?_)
  | (with_reducible refine we_cb ?_)
  | (with_reducible refine we_call0 ?_)
  | (with_reducible refine we_tup ?_)
  | (with_reducible refine we_lst ?_)
  | (with_reducible refine we_if ?_)
  | (with_reducible refine we_not ?_)
  | (with_reducible refine we_and ?_)
  | (with_reducible refine we_or ?_)
  | (with_reducible refine we_isN ?_)
  | (with_reducible refine we_notN ?_)
  | (with_reducible refine we_sl ?_)
  | (with_reducible refine wa_cons ?_)
  | (with_reducible refine wa_nil ?_)
  | (with_reducible refine wt_test ?_)
  | (with_reducible refine wt_B ?_)
  | (with_reducible refine wt_and ?_)
  | (with_reducible refine wt_or ?_)
  | (with_reducible refine wt_not ?_)
  | (with_reducible refine wt_yes ?_)
  | (with_reducible refine wo_none ?_)
  | (with_reducible refine wo_some ?_)
  | ((with_reducible refine' r2_ix ?hx ?_); (case hx => rfl))
  | (with_reducible refine r2_isN ?_)
  | (with_reducible refine r2_notN ?_)
  | (with_reducible refine r2_lt ?_)
  | (with_reducible refine r2_le ?_)
  | (with_reducible refine r2_gt ?_)
  | (with_reducible refine r2_ge ?_)
  | (with_reducible refine r2_sub ?_)
  | (with_reducible refine r2_addI ?_)
  | (with_reducible refine r2_eqI ?_)
  | (with_reducible refine r2_neI ?_)
  | (with_reducible refine rc_int ?_)
  | (with_reducible refine rc_abs ?_)
  | ((with_reducible refine' rc_len ?hl ?_); (case hl => rfl))
  | (with_reducible refine wi_seq ?_)
  | (with_reducible refine wi_rng1 ?_)
  | (with_reducible refine wi_rng2 ?_)
  | (with_reducible refine wi_enum ?_)
  | (refine ⟨_, rfl, ?_⟩))
local macro_rules | `(tactic| walk_at "ws1") => `(tactic| first
  | (with_reducible refine ws_seq ?_)
  | (with_reducible refine ws_set ?_)
  | (with_reducible refine ws_ret ?_)
  | (with_reducible refine ws_if ?_)
  | (with_reducible refine ws_next ?_)
  | (with_reducible refine ws_asg ?_))
local macro_rules | `(tactic| walk_at "wg1") => `(tactic| first
  | (with_reducible refine wg_name (rw_name (by decide)) ?_)
  | (with_reducible refine wg_name (fun _ _ => trivial) ?_)
  | ((with_reducible refine' wg_tup ?hl ?_); (case hl => rfl))
  | (with_reducible refine wgs_cons rw_trans ?_)
  | (with_reducible refine wgs_nil rw_refl ?_)
  | (with_reducible refine wgs_cons (fun _ _ _ _ _ => trivial) ?_)
  | (with_reducible refine wgs_nil (fun _ => trivial) ?_))
local macro_rules | `(tactic| walk_at "go") => `(tactic| repeat' (first | walk_at "we1" | walk_at "wg1"))
section
variable {P : Program} {w : World} {K : PySem.W.Frag} {mg : Str → Option Value} {base : Heap}
/-! a table with one entry more -/
def putE (E : List Ent) (x : Ent) : List Ent := if isNon (findE E x.nm x.ks) = true then sortE (E ++ [x]) else E
theorem putE_new {E : List Ent} {x : Ent} (h : isNon (findE E x.nm x.ks) = true) : putE E x = sortE (E ++ [x]) := if_pos h
theorem putE_old {E : List Ent} {x : Ent} (h : isNon (findE E x.nm x.ks) = false) : putE E x = E := if_neg (by rw [h]; decide)
def spWith : L3.Spec := fun bag n ds Φ => ∃ (E : List Ent) (x : Ent), ds = [.tup (E.map entD), .str x.nm, .tup (x.ks.map .int), .int x.v] ∧ E.length ≤ 900 ∧ (∀ e ∈ E, okE e) ∧ okE x ∧ Φ n (.tup ((putE E x).map entD))
def spPut : L3.Spec := fun bag n ds Φ => ∃ (E : List Ent) (x : Ent), ds = [.tup (E.map entD), entD x] ∧ E.length ≤ 900 ∧ (∀ e ∈ E, okE e) ∧ okE x ∧ Φ n (.tup ((putE E x).map entD))
abbrev s_with_answer : Stmt := top 18
abbrev N_with_answer : List Str := ["table", "name", "key", "value"]
theorem sc_with_answer : FnScope N_with_answer ["table", "name", "key", "value"] (defScope s_with_answer) := ⟨rfl, rfl, rfl, by decide +kernel, rfl, by decide +kernel, by decide +kernel⟩

theorem ok_with {f : Addr} {fd : FuncData} (F : Fun K "with_answer" "with_answer" s_with_answer f fd) (T : Txt mg) (D_entry_value : Dn P w K mg base "entry_value" 1 ["table", "name", "key"] [] [] spFind) : FnOk P w K mg base CX0 2 f fd ["table", "name", "key", "value"] (spD K spWith) := by
  refine fn_D F sc_with_answer (fun bag n ds Φ h => ?_) (fun cdv A outer s H Ex O bag n ds Φ hr h => ?_)
  · obtain ⟨E, x, e, _⟩ := h
    rw [e]; rfl
  · obtain ⟨E, x, e, hE, hok, okx, kk⟩ := h
    subst e
    refine ⟨_, (pss_cons (ps_set (i := 2) sc_with_answer.nd rfl (Or.inl rfl) (pe_callTy (x_tup K) (by rfl) T.b_tuple (by decide +kernel) (pa_cons (pv 2) pa_nil)))
  (pss_cons (ps_if (pt_cmpR op_notN1 (pe_call D_entry_value.G (hr.mono (by decide)) (by rfl) D_entry_value.m D_entry_value.k D_entry_value.b D_entry_value.v pass0 (pa_cons (pv 0) (pa_cons (pv 1) (pa_cons (pv 2) pa_nil)))) pe_non (nomark _)) (pss_one (ps_ret (pe_callTy (x_tup K) (by rfl) T.b_tuple (by decide +kernel) (pa_cons (pv 0) pa_nil)))) pss_nil)
  (pss_one (ps_ret (pe_callTy (x_tup K) (by rfl) T.b_tuple (by decide +kernel) (pa_cons (pe_callB (x_sorted K (by exact hr.units)) (by rfl) T.b_sorted (by decide +kernel) (pa_cons (pe_op (x_add K) (pe_callTy (x_list K) (by rfl) T.b_list (by decide +kernel) (pa_cons (pv 0) pa_nil)) (pe_lst (pa_cons (pe_tup (pa_cons (pv 1) (pa_cons (pv 2) (pa_cons (pv 3) pa_nil)))) pa_nil))) pa_nil)) pa_nil)))))), ?_⟩
    show WS _ _ [.val (.tup (E.map entD)), .val (.str x.nm), .val (.tup (x.ks.map .int)), .val (.int x.v)] n _
    walk_at "ws1"
    walk_at "ws1"
    walk_at "go"
    refine rc_tup rfl ?_
    walk_at "ws1"
    walk_at "ws1"
    walk_at "go"
    refine ⟨E, x.nm, x.ks, rfl, by omega, hok, ok_nm okx, ?_⟩
    walk_at "go"
    cases hn : isNon (findE E x.nm x.ks) with
    | false =>
      refine itT rfl ?_
      walk_at "ws1"
      walk_at "go"
      refine rc_tup rfl ?_
      rw [putE_old hn] at kk
      exact kk
    | true =>
      refine itF rfl ?_
      walk_at "ws1"
      walk_at "ws1"
      walk_at "go"
      refine rc_list rfl ?_
      walk_at "go"
      refine ⟨Nat.le_of_ble_eq_true rfl, ?_⟩
      walk_at "go"
      refine ⟨Nat.le_of_ble_eq_true rfl, ?_⟩
      have e1 : E.map entD ++ [entD x] = (E ++ [x]).map entD := by rw [List.map_append]; rfl
      refine r2_cat (by rw [List.length_map]; show _ + 1 ≤ _; omega) ?_
      refine wa_nil ?_
      show RCD _ _ [.lst (E.map entD ++ [entD x])] _
      rw [e1]
      refine rc_sort (plain_ents _) (alike_E _) (sortable_E _) (by rw [List.length_map, List.length_append, sizeLine_eq]; show _ + 1 ≤ _; omega) (fun d hd => ?_) ?_
      · obtain ⟨y, _, rfl⟩ := List.mem_map.mp hd
        exact Nat.le_trans (depth_E y) (by decide)
      rw [sortD_ent]
      walk_at "go"
      refine rc_tup rfl ?_
      rw [putE_new hn] at kk
      exact kk
abbrev s_law_put : Stmt := top 37
abbrev N_law_put : List Str := ["table", "entry"]
theorem sc_law_put : FnScope N_law_put ["table", "entry"] (defScope s_law_put) := ⟨rfl, rfl, rfl, by decide +kernel, rfl, by decide +kernel, by decide +kernel⟩

theorem ok_put {f : Addr} {fd : FuncData} (F : Fun K "_law_put" "_law_put" s_law_put f fd) (T : Txt mg) (D_law_find : Dn P w K mg base "_law_find" 1 ["table", "name", "key"] [] [] spFind) : FnOk P w K mg base CX0 2 f fd ["table", "entry"] (spD K spPut) := by
  refine fn_D F sc_law_put (fun bag n ds Φ h => ?_) (fun cdv A outer s H Ex O bag n ds Φ hr h => ?_)
  · obtain ⟨E, x, e, _⟩ := h
    rw [e]; rfl
  · obtain ⟨E, x, e, hE, hok, okx, kk⟩ := h
    subst e
    refine ⟨_, (pss_cons (ps_if (pt_cmpR op_notN1 (pe_call D_law_find.G (hr.mono (by decide)) (by rfl) D_law_find.m D_law_find.k D_law_find.b D_law_find.v pass0 (pa_cons (pv 0) (pa_cons (pe_ix (x_ix K) (pv 1) pe_int (fun _ _ => rfl)) (pa_cons (pe_ix (x_ix K) (pv 1) pe_int (fun _ _ => rfl)) pa_nil)))) pe_non (nomark _)) (pss_one (ps_ret (pv 0))) pss_nil)
  (pss_one (ps_ret (pe_callTy (x_tup K) (by rfl) T.b_tuple (by decide +kernel) (pa_cons (pe_callB (x_sorted K (by exact hr.units)) (by rfl) T.b_sorted (by decide +kernel) (pa_cons (pe_op (x_add K) (pe_callTy (x_list K) (by rfl) T.b_list (by decide +kernel) (pa_cons (pv 0) pa_nil)) (pe_lst (pa_cons (pv 1) pa_nil))) pa_nil)) pa_nil))))), ?_⟩
    show WS _ _ [.val (.tup (E.map entD)), .val (entD x)] n _
    walk_at "ws1"
    walk_at "ws1"
    walk_at "go"
    refine ⟨E, x.nm, x.ks, rfl, by omega, hok, ok_nm okx, ?_⟩
    walk_at "go"
    cases hn : isNon (findE E x.nm x.ks) with
    | false =>
      refine itT rfl ?_
      walk_at "ws1"
      walk_at "go"
      rw [putE_old hn] at kk
      exact kk
    | true =>
      refine itF rfl ?_
      walk_at "ws1"
      walk_at "ws1"
      walk_at "go"
      refine rc_list rfl ?_
      walk_at "go"
      refine ⟨Nat.le_of_ble_eq_true rfl, ?_⟩
      have e1 : E.map entD ++ [entD x] = (E ++ [x]).map entD := by rw [List.map_append]; rfl
      refine r2_cat (by rw [List.length_map]; show _ + 1 ≤ _; omega) ?_
      refine wa_nil ?_
      show RCD _ _ [.lst (E.map entD ++ [entD x])] _
      rw [e1]
      refine rc_sort (plain_ents _) (alike_E _) (sortable_E _) (by rw [List.length_map, List.length_append, sizeLine_eq]; show _ + 1 ≤ _; omega) (fun d hd => ?_) ?_
      · obtain ⟨y, _, rfl⟩ := List.mem_map.mp hd
        exact Nat.le_trans (depth_E y) (by decide)
      rw [sortD_ent]
      walk_at "go"
      refine rc_tup rfl ?_
      rw [putE_new hn] at kk
      exact kk
end
end Toy
namespace Toy
open PySem L2 L3
local macro_rules | `(tactic| walk_at "we1") => `(tactic| first
  | ((with_reducible refine' we_var ?hv ?_); (case hv => rfl))
  | (with_reducible refine we_int ?_)
  | (with_reducible refine we_str ?_)
  | (with_reducible refine we_bl ?_)
  | (with_reducible refine we_non ?_)
  | ((with_reducible refine' we_dix ?hv ?_); (case hv => rfl))
  | (with_reducible refine we_op ?_)
  | ((with_reducible refine' we_dget ?hv ?_); (case hv => rfl))
  | (with_reducible refine we_count ?_)
  | (with_reducible refine we_cb ?_)
  | (with_reducible refine we_call0 ?_)
  | (with_reducible refine we_tup ?_)
  | (with_reducible refine we_lst ?_)
  | (with_reducible refine we_if ?_)
  | (with_reducible refine we_not ?_)
  | (with_reducible refine we_and ?_)
  | (with_reducible refine we_or ?_)
  | (with_reducible refine we_isN ?_)
  | (with_reducible refine we_notN ?_)
  | (with_reducible refine we_sl ?_)
  | (with_reducible refine wa_cons ?_)
  | (with_reducible refine wa_nil ?_)
  | (with_reducible refine wt_test ?_)
  | (with_reducible refine wt_B ?_)
  | (with_reducible refine wt_and ?_)
  | (with_reducible refine wt_or ?_)
  | (with_reducible refine wt_not ?_)
  | (with_reducible refine wt_yes ?_)
  | (with_reducible refine wo_none ?_)
  | (with_reducible refine wo_some ?_)
  | ((with_reducible refine' r2_ix ?hx ?_); (case hx => rfl))
  | (with_reducible refine r2_isN ?_)
  | (with_reducible refine r2_notN ?_)
  | (with_reducible refine r2_lt ?_)
  | (with_reducible refine r2_le ?_)
  | (with_reducible refine r2_gt ?_)
  | (with_reducible refine r2_ge ?_)
  | (with_reducible refine r2_sub ?_)
  | (with_reducible refine r2_addI ?_)
  | (with_reducible refine r2_eqI ?_)
  | (with_reducible refine r2_neI ?_)
  | (with_reducible refine rc_int ?_)
  | (with_reducible refine rc_abs ?_)
  | ((with_reducible refine' rc_len ?hl ?_); (case hl => rfl))
  | (with_reducible refine wi_seq ?_)
  | (with_reducible refine wi_rng1 ?_)
  | (with_reducible refine wi_rng2 ?_)
  | (with_reducible refine wi_enum ?_)
  | (refine ⟨_, rfl, ?_⟩))
local macro_rules | `(tactic| walk_at "ws1") => `(tactic| first
  | (with_reducible refine ws_seq ?_)
  | (with_reducible refine ws_set ?_)
  | (with_reducible refine ws_ret ?_)
  | (with_reducible refine ws_if ?_)
  | (with_reducible refine ws_next ?_)
  | (with_reducible refine ws_asg ?_))
local macro_rules | `(tactic| walk_at "wg1") => `(tactic| first
  | (with_reducible refine wg_name (rw_name (by decide)) ?_)
  | (with_reducible refine wg_name (fun _ _ => trivial) ?_)
  | ((with_reducible refine' wg_tup ?hl ?_); (case hl => rfl))
  | (with_reducible refine wgs_cons rw_trans ?_)
  | (with_reducible refine wgs_nil rw_refl ?_)
  | (with_reducible refine wgs_cons (fun _ _ _ _ _ => trivial) ?_)
  | (with_reducible refine wgs_nil (fun _ => trivial) ?_))
local macro_rules | `(tactic| walk_at "go") => `(tactic| repeat' (first | walk_at "we1" | walk_at "wg1"))
section
variable {P : Program} {w : World} {K : PySem.W.Frag} {mg : Str → Option Value} {base : Heap}
/-! the law's events and the order of them -/
abbrev evT (e : Toy.Ev) : D := .tup [.str e.nm, .int e.at_, .str e.kind, .tup (e.needs.map .str)]
def evOf (C : Addr) : D → D
  | .tup [a, b, c, d] => .obj C [("name", a), ("end", b), ("kind", c), ("needs", d)]
  | _ => .non
def spOrderOf (CO CE : Addr) : L3.Spec := fun bag n ds Φ => ∃ (es : List Toy.Ev), ds = [.lst (es.map evT)] ∧ goodEvs es ∧ Φ n (ordD CO CE es)
abbrev s_law_order_of : Stmt := top 29
abbrev N_law_order_of : List Str := ["events", "name", "end", "kind", "needs"]
theorem sc_law_order_of : FnScope N_law_order_of ["events"] (defScope s_law_order_of) := ⟨rfl, rfl, rfl, by decide +kernel, rfl, by decide +kernel, by decide +kernel⟩

theorem ok_order_of {f : Addr} {fd : FuncData} {dv : List V} {dw : List Value} (F : Fun K "_law_order_of" "_law_order_of" s_law_order_of f fd) (T : Txt mg) (M_Event : Mn P w K mg base "Event" 1 ["self", "name", "end", "kind", "needs"] [] [] spEv) (M_Order : Mn P w K mg base "Order" 3 ["self", "events"] [] [] (spOrder M_Event.C)) : FnOk P w K mg base CX0 5 f fd ["events"] (spD K (spOrderOf M_Order.C M_Event.C)) := by
  refine fn_D F sc_law_order_of (fun bag n ds Φ h => ?_) (fun cdv A outer s H Ex O bag n ds Φ hr h => ?_)
  · obtain ⟨es, e, _⟩ := h
    rw [e]; rfl
  · obtain ⟨es, e, hg, kk⟩ := h
    subst e
    refine ⟨_, (pss_one (ps_ret (pe_make M_Order.M M_Order.G (hr.mono (by decide)) (by rfl) M_Order.m M_Order.b M_Order.v pass0 (pa_cons (pe_lc (own := [("name", 1), ("end", 2), ("kind", 3), ("needs", 4)]) (g := gTup K 4 (gCons (gName 1) (gCons (gName 2) (gCons (gName 3) (gCons (gName 4) gNil))))) (tt := tYes) rfl sc_law_order_of.nd (x_seq K (pv 0)) (blkOk_by (own := [("name", 1), ("end", 2), ("kind", 3), ("needs", 4)]) (N := N_law_order_of) (sc := defScope s_law_order_of) (by decide +kernel)) (fun _ _ _ _ _ => (x_tgt K (pg_tup (by rfl) (pgs_cons (pg_name (i := 1) sc_law_order_of.nd rfl (Or.inl rfl)) (pgs_cons (pg_name (i := 2) sc_law_order_of.nd rfl (Or.inl rfl)) (pgs_cons (pg_name (i := 3) sc_law_order_of.nd rfl (Or.inl rfl)) (pgs_cons (pg_name (i := 4) sc_law_order_of.nd rfl (Or.inl rfl)) pgs_nil))))))) (fun _ _ _ _ _ => pts_nil) (fun _ _ _ _ _ => (pe_make M_Event.M M_Event.G (hr.mono (by decide)) (by rfl) M_Event.m M_Event.b M_Event.v pass0 (pa_cons (pv 1) (pa_cons (pv 2) (pa_cons (pv 3) (pa_cons (pv 4) pa_nil))))))) pa_nil)))), ?_⟩
    show WS _ _ [.val (.lst (es.map evT)), .un, .un, .un, .un] n _
    walk_at "ws1"
    refine we_make (dds := []) (fun _ => .nil) ?_
    refine wa_cons (wf_we (wf_map (evOf M_Event.C) (fun _ => true) ?_))
    walk_at "we1"
    walk_at "we1"
    have h12 := hg.1
    refine ⟨_, rfl, by rw [List.length_map]; omega, fun d hd m => ?_, ?_⟩
    · obtain ⟨e, _, rfl⟩ := List.mem_map.mp hd
      walk_at "go"
      refine ⟨rfl, rfl, fun _ => ?_⟩
      refine we_make (dds := []) (fun _ => .nil) ?_
      walk_at "go"
      exact ⟨rfl, rfl⟩
    rw [filt_all, List.map_map]
    refine wa_nil ⟨es, rfl, hg, kk⟩
end
end Toy
namespace Toy
open PySem L2 L3
local macro_rules | `(tactic| walk_at "we1") => `(tactic| first
  | ((with_reducible refine' we_var ?hv ?_); (case hv => rfl))
  | (with_reducible refine we_int ?_)
  | (with_reducible refine we_str ?_)
  | (with_reducible refine we_bl ?_)
  | (with_reducible refine we_non ?_)
  | ((with_reducible refine' we_dix ?hv ?_); (case hv => rfl))
  | (with_reducible refine we_op ?_)
  | ((with_reducible refine' we_dget ?hv ?_); (case hv => rfl))
  | (with_reducible refine we_count ?_)
  | (with_reducible refine we_cb ?_)
  | (with_reducible refine we_call0 ?_)
  | (with_reducible refine we_tup ?_)
  | (with_reducible refine we_lst ?_)
  | (with_reducible refine we_if ?_)
  | (with_reducible refine we_not ?_)
  | (with_reducible refine we_and ?_)
  | (with_reducible refine we_or ?_)
  | (with_reducible refine we_isN ?_)
  | (with_reducible refine we_notN ?_)
  | (with_reducible refine we_sl ?_)
  | (with_reducible refine wa_cons ?_)
  | (with_reducible refine wa_nil ?_)
  | (with_reducible refine wt_test ?_)
  | (with_reducible refine wt_B ?_)
  | (with_reducible refine wt_and ?_)
  | (with_reducible refine wt_or ?_)
  | (with_reducible refine wt_not ?_)
  | (with_reducible refine wt_yes ?_)
  | (with_reducible refine wo_none ?_)
  | (with_reducible refine wo_some ?_)
  | ((with_reducible refine' r2_ix ?hx ?_); (case hx => rfl))
  | (with_reducible refine r2_isN ?_)
  | (with_reducible refine r2_notN ?_)
  | (with_reducible refine r2_lt ?_)
  | (with_reducible refine r2_le ?_)
  | (with_reducible refine r2_gt ?_)
  | (with_reducible refine r2_ge ?_)
  | (with_reducible refine r2_sub ?_)
  | (with_reducible refine r2_addI ?_)
  | (with_reducible refine r2_eqI ?_)
  | (with_reducible refine r2_neI ?_)
  | (with_reducible refine rc_int ?_)
  | (with_reducible refine rc_abs ?_)
  | ((with_reducible refine' rc_len ?hl ?_); (case hl => rfl))
  | (with_reducible refine wi_seq ?_)
  | (with_reducible refine wi_rng1 ?_)
  | (with_reducible refine wi_rng2 ?_)
  | (with_reducible refine wi_enum ?_)
  | (refine ⟨_, rfl, ?_⟩))
local macro_rules | `(tactic| walk_at "ws1") => `(tactic| first
  | (with_reducible refine ws_seq ?_)
  | (with_reducible refine ws_set ?_)
  | (with_reducible refine ws_ret ?_)
  | (with_reducible refine ws_if ?_)
  | (with_reducible refine ws_next ?_)
  | (with_reducible refine ws_asg ?_))
local macro_rules | `(tactic| walk_at "wg1") => `(tactic| first
  | (with_reducible refine wg_name (rw_name (by decide)) ?_)
  | (with_reducible refine wg_name (fun _ _ => trivial) ?_)
  | ((with_reducible refine' wg_tup ?hl ?_); (case hl => rfl))
  | (with_reducible refine wgs_cons rw_trans ?_)
  | (with_reducible refine wgs_nil rw_refl ?_)
  | (with_reducible refine wgs_cons (fun _ _ _ _ _ => trivial) ?_)
  | (with_reducible refine wgs_nil (fun _ => trivial) ?_))
local macro_rules | `(tactic| walk_at "go") => `(tactic| repeat' (first | walk_at "we1" | walk_at "wg1"))
section
variable {P : Program} {w : World} {K : PySem.W.Frag} {mg : Str → Option Value} {base : Heap}
/-! the law's own checks of entries -/
abbrev s_law_is_whole : Stmt := top 30
abbrev N_law_is_whole : List Str := ["thing"]
theorem sc_law_is_whole : FnScope N_law_is_whole ["thing"] (defScope s_law_is_whole) := ⟨rfl, rfl, rfl, by decide +kernel, rfl, by decide +kernel, by decide +kernel⟩

theorem ok_lwhole {f : Addr} {fd : FuncData} (F : Fun K "_law_is_whole" "_law_is_whole" s_law_is_whole f fd) (T : Txt mg) : FnOk P w K mg base CX0 1 f fd ["thing"] (spD K spWhole) := by
  refine fn_D F sc_law_is_whole (fun bag n ds Φ h => ?_) (fun cdv A outer s H E O bag n ds Φ hr h => ?_)
  · obtain ⟨E, e, _⟩ := h
    rw [e]; rfl
  · obtain ⟨i, e, kk⟩ := h
    subst e
    refine ⟨_, (pss_one (ps_ret (pe_and (pe_callB (x_isi K) (by rfl) T.b_isinstance (by decide +kernel) (pa_cons (pv 0) (pa_cons (pe_bltn (v := .ty "int") (by rfl) T.b_int (by decide +kernel) rfl) pa_nil))) (pe_one (pe_not (pe_callB (x_isi K) (by rfl) T.b_isinstance (by decide +kernel) (pa_cons (pv 0) (pa_cons (pe_bltn (v := .ty "bool") (by rfl) T.b_bool (by decide +kernel) rfl) pa_nil)))))))), ?_⟩
    show WS _ _ [.val (.int i)] n _
    walk_at "ws1"
    walk_at "go"
    refine we_ty ?_
    walk_at "go"
    refine rc_isi (b := true) rfl (by decide +kernel) ?_
    refine ⟨_, rfl, itT rfl ?_⟩
    walk_at "go"
    refine we_ty ?_
    walk_at "go"
    refine rc_isi (b := false) rfl (by decide +kernel) ?_
    exact ⟨_, rfl, kk⟩
def spEntry : L3.Spec := fun bag n ds Φ => ∃ e : Ent, ds = [entD e] ∧ e.ks.length ≤ 1000 ∧ Φ n (.bl true)
abbrev s_law_is_entry : Stmt := top 31
abbrev N_law_is_entry : List Str := ["thing", "number"]
theorem sc_law_is_entry : FnScope N_law_is_entry ["thing"] (defScope s_law_is_entry) := ⟨rfl, rfl, rfl, by decide +kernel, rfl, by decide +kernel, by decide +kernel⟩

theorem ok_entry {f : Addr} {fd : FuncData} (F : Fun K "_law_is_entry" "_law_is_entry" s_law_is_entry f fd) (T : Txt mg) (D_law_is_whole : Dn P w K mg base "_law_is_whole" 1 ["thing"] [] [] spWhole) : FnOk P w K mg base CX0 2 f fd ["thing"] (spD K spEntry) := by
  refine fn_D F sc_law_is_entry (fun bag n ds Φ h => ?_) (fun cdv A outer s H E O bag n ds Φ hr h => ?_)
  · obtain ⟨E, e, _⟩ := h
    rw [e]; rfl
  · obtain ⟨e, e1, hl, kk⟩ := h
    subst e1
    refine ⟨_, (pss_cons (ps_if (PW.pt (pw_or (pt_not (pt_val (pe_callB (x_isi K) (by rfl) T.b_isinstance (by decide +kernel) (pa_cons (pv 0) (pa_cons (pe_bltn (v := .ty "tuple") (by rfl) T.b_tuple (by decide +kernel) rfl) pa_nil))))) (pw_or (pt_cmpR (x_ne K (by exact hr.units)) (pe_callB (x_len K) (by rfl) T.b_len (by decide +kernel) (pa_cons (pv 0) pa_nil)) pe_int (nomark _)) (pw_or1 (pt_not (pt_val (pe_callB (x_isi K) (by rfl) T.b_isinstance (by decide +kernel) (pa_cons (pe_ix (x_ix K) (pv 0) pe_int (fun _ _ => rfl)) (pa_cons (pe_bltn (v := .ty "str") (by rfl) T.b_str (by decide +kernel) rfl) pa_nil))))))))) (pss_one (ps_ret pe_bl)) pss_nil)
  (pss_cons (ps_if (PW.pt (pw_or (pt_not (pt_val (pe_callB (x_isi K) (by rfl) T.b_isinstance (by decide +kernel) (pa_cons (pe_ix (x_ix K) (pv 0) pe_int (fun _ _ => rfl)) (pa_cons (pe_bltn (v := .ty "tuple") (by rfl) T.b_tuple (by decide +kernel) rfl) pa_nil))))) (pw_or1 (pt_not (pt_val (pe_call D_law_is_whole.G (hr.mono (by decide)) (by rfl) D_law_is_whole.m D_law_is_whole.k D_law_is_whole.b D_law_is_whole.v pass0 (pa_cons (pe_ix (x_ix K) (pv 0) pe_int (fun _ _ => rfl)) pa_nil))))))) (pss_one (ps_ret pe_bl)) pss_nil)
  (pss_one (ps_ret (pe_callB (x_all K) (by rfl) T.b_all (by decide +kernel) (pa_cons (pe_lc (own := [("number", 1)]) (g := gName 1) (tt := tYes) rfl sc_law_is_entry.nd (x_seq K (pe_ix (x_ix K) (pv 0) pe_int (fun _ _ => rfl))) (blkOk_by (own := [("number", 1)]) (N := N_law_is_entry) (sc := defScope s_law_is_entry) (by decide +kernel)) (fun _ _ _ _ _ => (pg_name (i := 1) sc_law_is_entry.nd rfl (Or.inl rfl))) (fun _ _ _ _ _ => pts_nil) (fun _ _ _ _ _ => (pe_call D_law_is_whole.G (hr.mono (by decide)) (by rfl) D_law_is_whole.m D_law_is_whole.k D_law_is_whole.b D_law_is_whole.v pass0 (pa_cons (pv 1) pa_nil)))) pa_nil)))))), ?_⟩
    show WS _ _ [.val (entD e), .un] n _
    walk_at "ws1"
    walk_at "ws1"
    walk_at "go"
    refine we_ty ?_
    walk_at "go"
    refine rc_isi (b := true) rfl (by decide +kernel) ?_
    refine ⟨_, rfl, itF rfl ?_⟩
    walk_at "go"
    refine itF rfl ?_
    walk_at "go"
    refine we_ty ?_
    walk_at "go"
    refine rc_isi (b := true) rfl (by decide +kernel) ?_
    refine ⟨_, rfl, itF rfl ?_⟩
    walk_at "ws1"
    walk_at "ws1"
    walk_at "ws1"
    walk_at "go"
    refine we_ty ?_
    walk_at "go"
    refine rc_isi (b := true) rfl (by decide +kernel) ?_
    refine ⟨_, rfl, itF rfl ?_⟩
    walk_at "go"
    refine itF rfl ?_
    walk_at "ws1"
    walk_at "ws1"
    refine we_cb (wa_cons (wf_we (wf_map (fun _ => .bl true) (fun _ => true) ?_)))
    walk_at "go"
    refine ⟨?_, fun d hd m => ?_, ?_⟩
    · rw [List.length_map]; omega
    · obtain ⟨i, _, rfl⟩ := List.mem_map.mp hd
      walk_at "go"
      refine ⟨rfl, rfl, fun _ => ?_⟩
      walk_at "go"
      exact ⟨rfl, rfl⟩
    rw [filt_all]
    refine wa_nil ?_
    have e1 : (e.ks.map D.int).map (fun _ => D.bl true) = (e.ks.map fun _ => true).map D.bl := by rw [List.map_map, List.map_map]; rfl
    rw [e1]
    refine rc_all ?_
    have e2 : (e.ks.map fun _ => true).all id = true := by simp
    rw [e2]
    exact kk
def spEntries : L3.Spec := fun bag n ds Φ => ∃ E : List Ent, ds = [.tup (E.map entD)] ∧ E.length ≤ 1000 ∧ (∀ e ∈ E, e.ks.length ≤ 1000) ∧ Φ n (.bl true)
abbrev s_law_are_entries : Stmt := top 32
abbrev N_law_are_entries : List Str := ["thing", "entry"]
theorem sc_law_are_entries : FnScope N_law_are_entries ["thing"] (defScope s_law_are_entries) := ⟨rfl, rfl, rfl, by decide +kernel, rfl, by decide +kernel, by decide +kernel⟩

theorem ok_entries {f : Addr} {fd : FuncData} (F : Fun K "_law_are_entries" "_law_are_entries" s_law_are_entries f fd) (T : Txt mg) (D_law_is_entry : Dn P w K mg base "_law_is_entry" 2 ["thing"] [] [] spEntry) : FnOk P w K mg base CX0 3 f fd ["thing"] (spD K spEntries) := by
  refine fn_D F sc_law_are_entries (fun bag n ds Φ h => ?_) (fun cdv A outer s H Ex O bag n ds Φ hr h => ?_)
  · obtain ⟨E, e, _⟩ := h
    rw [e]; rfl
  · obtain ⟨E, e, hE, hk, kk⟩ := h
    subst e
    refine ⟨_, (pss_one (ps_ret (pe_and (pe_callB (x_isi K) (by rfl) T.b_isinstance (by decide +kernel) (pa_cons (pv 0) (pa_cons (pe_bltn (v := .ty "tuple") (by rfl) T.b_tuple (by decide +kernel) rfl) pa_nil))) (pe_one (pe_callB (x_all K) (by rfl) T.b_all (by decide +kernel) (pa_cons (pe_lc (own := [("entry", 1)]) (g := gName 1) (tt := tYes) rfl sc_law_are_entries.nd (x_seq K (pv 0)) (blkOk_by (own := [("entry", 1)]) (N := N_law_are_entries) (sc := defScope s_law_are_entries) (by decide +kernel)) (fun _ _ _ _ _ => (pg_name (i := 1) sc_law_are_entries.nd rfl (Or.inl rfl))) (fun _ _ _ _ _ => pts_nil) (fun _ _ _ _ _ => (pe_call D_law_is_entry.G (hr.mono (by decide)) (by rfl) D_law_is_entry.m D_law_is_entry.k D_law_is_entry.b D_law_is_entry.v pass0 (pa_cons (pv 1) pa_nil)))) pa_nil)))))), ?_⟩
    show WS _ _ [.val (.tup (E.map entD)), .un] n _
    walk_at "ws1"
    walk_at "go"
    refine we_ty ?_
    walk_at "go"
    refine rc_isi (b := true) rfl (by decide +kernel) ?_
    refine ⟨_, rfl, itT rfl ?_⟩
    refine we_cb (wa_cons (wf_we (wf_map (fun _ => .bl true) (fun _ => true) ?_)))
    walk_at "we1"
    walk_at "we1"
    refine ⟨_, rfl, by rw [List.length_map]; omega, fun d hd m => ?_, ?_⟩
    · obtain ⟨e, he, rfl⟩ := List.mem_map.mp hd
      walk_at "go"
      refine ⟨rfl, rfl, fun _ => ?_⟩
      walk_at "go"
      exact ⟨hk e he, rfl, rfl⟩
    rw [filt_all]
    have e1 : (E.map entD).map (fun _ => D.bl true) = (E.map fun _ => true).map D.bl := by rw [List.map_map, List.map_map]; rfl
    rw [e1]
    refine wa_nil (rc_all ?_)
    have e2 : (E.map fun _ => true).all id = true := by simp
    rw [e2]
    exact kk
end
end Toy
namespace Toy
open PySem L2 L3
local macro_rules | `(tactic| walk_at "we1") => `(tactic| first
  | ((with_reducible refine' we_var ?hv ?_); (case hv => rfl))
  | (with_reducible refine we_int ?_)
  | (with_reducible refine we_str ?_)
  | (with_reducible refine we_bl ?_)
  | (with_reducible refine we_non ?_)
  | ((with_reducible refine' we_dix ?hv ?_); (case hv => rfl))
  | (with_reducible refine we_op ?_)
  | ((with_reducible refine' we_dget ?hv ?_); (case hv => rfl))
  | (with_reducible refine we_count ?_)
  | (with_reducible refine we_cb ?_)
  | (with_reducible refine we_call0 ?_)
  | (with_reducible refine we_tup ?_)
  | (with_reducible refine we_lst ?_)
  | (with_reducible refine we_if ?_)
  | (with_reducible refine we_not ?_)
  | (with_reducible refine we_and ?_)
  | (with_reducible refine we_or ?_)
  | (with_reducible refine we_isN ?_)
  | (with_reducible refine we_notN ?_)
  | (with_reducible refine we_sl ?_)
  | (with_reducible refine wa_cons ?_)
  | (with_reducible refine wa_nil ?_)
  | (with_reducible refine wt_test ?_)
  | (with_reducible refine wt_B ?_)
  | (with_reducible refine wt_and ?_)
  | (with_reducible refine wt_or ?_)
  | (with_reducible refine wt_not ?_)
  | (with_reducible refine wt_yes ?_)
  | (with_reducible refine wo_none ?_)
  | (with_reducible refine wo_some ?_)
  | ((with_reducible refine' r2_ix ?hx ?_); (case hx => rfl))
  | (with_reducible refine r2_isN ?_)
  | (with_reducible refine r2_notN ?_)
  | (with_reducible refine r2_lt ?_)
  | (with_reducible refine r2_le ?_)
  | (with_reducible refine r2_gt ?_)
  | (with_reducible refine r2_ge ?_)
  | (with_reducible refine r2_sub ?_)
  | (with_reducible refine r2_addI ?_)
  | (with_reducible refine r2_eqI ?_)
  | (with_reducible refine r2_neI ?_)
  | (with_reducible refine rc_int ?_)
  | (with_reducible refine rc_abs ?_)
  | ((with_reducible refine' rc_len ?hl ?_); (case hl => rfl))
  | (with_reducible refine wi_seq ?_)
  | (with_reducible refine wi_rng1 ?_)
  | (with_reducible refine wi_rng2 ?_)
  | (with_reducible refine wi_enum ?_)
  | (refine ⟨_, rfl, ?_⟩))
local macro_rules | `(tactic| walk_at "ws1") => `(tactic| first
  | (with_reducible refine ws_seq ?_)
  | (with_reducible refine ws_set ?_)
  | (with_reducible refine ws_ret ?_)
  | (with_reducible refine ws_if ?_)
  | (with_reducible refine ws_next ?_)
  | (with_reducible refine ws_asg ?_))
local macro_rules | `(tactic| walk_at "wg1") => `(tactic| first
  | (with_reducible refine wg_name (rw_name (by decide)) ?_)
  | (with_reducible refine wg_name (fun _ _ => trivial) ?_)
  | ((with_reducible refine' wg_tup ?hl ?_); (case hl => rfl))
  | (with_reducible refine wgs_cons rw_trans ?_)
  | (with_reducible refine wgs_nil rw_refl ?_)
  | (with_reducible refine wgs_cons (fun _ _ _ _ _ => trivial) ?_)
  | (with_reducible refine wgs_nil (fun _ => trivial) ?_))
local macro_rules | `(tactic| walk_at "go") => `(tactic| repeat' (first | walk_at "we1" | walk_at "wg1"))
section
variable {P : Program} {w : World} {K : PySem.W.Frag} {mg : Str → Option Value} {base : Heap}
/-! plays -/
abbrev Tb := List (Int × List Ent)
def tbD (T : Tb) : List (L2.Key × D) := T.map fun p => (Sum.inl p.1, copyD p.2)
def atT (T : Tb) (e : Int) : Option (List Ent) := (T.find? fun p => decide (p.1 = e)).map (·.2)
def goodE (E : List Ent) : Prop := E.length ≤ 900 ∧ ∀ e ∈ E, okE e
def goodT (T : Tb) : Prop := ∀ p ∈ T, goodE p.2
def optD : Option Int → D
  | none => .non
  | some v => .int v
def findO (E : List Ent) (nm : Str) (ks : List Int) : Option Int := (E.find? (isE nm ks)).map (·.v)
theorem findE_O (E : List Ent) (nm : Str) (ks : List Int) : findE E nm ks = optD (findO E nm ks) := by
  unfold findE findO
  cases E.find? (isE nm ks) <;> rfl
theorem look_tb (e : Int) : ∀ T : Tb, lookK (tbD T) (.inl e) = (atT T e).map copyD
  | [] => rfl
  | p :: T => by
    have ih := look_tb e T
    unfold lookK atT tbD at *
    rw [List.map_cons]
    by_cases h : p.1 = e
    · rw [List.find?_cons_of_pos (by simpa using h), List.find?_cons_of_pos (by simpa using h)]; rfl
    · rw [List.find?_cons_of_neg (by simpa using h), List.find?_cons_of_neg (by simpa using h)]; exact ih
theorem at_good {T : Tb} (h : goodT T) {e : Int} {E : List Ent} (q : atT T e = some E) : goodE E := by
  unfold atT at q
  cases r : T.find? (fun p => decide (p.1 = e)) with
  | none => rw [r] at q; cases q
  | some p =>
    rw [r] at q
    rw [← Option.some.inj q]
    exact h p (List.mem_of_find?_eq_some r)
/-- the values come out -/
abbrev Vs := List (Str × Int)
def vsD (vs : Vs) : List (L2.Key × D) := vs.map fun p => (Sum.inr p.1, D.int p.2)
def vget (vs : Vs) (x : Str) : Option Int := (vs.find? fun p => decide (p.1 = x)).map (·.2)
def vput (vs : Vs) (x : Str) (v : Int) : Vs := if (vs.any fun p => decide (p.1 = x)) = true then vs.map fun p => if p.1 = x then (p.1, v) else p else vs ++ [(x, v)]
theorem look_vs (x : Str) : ∀ vs : Vs, lookK (vsD vs) (.inr x) = (vget vs x).map .int
  | [] => rfl
  | p :: T => by
    have ih := look_vs x T
    unfold lookK vget vsD at *
    rw [List.map_cons]
    by_cases h : p.1 = x
    · rw [List.find?_cons_of_pos (by simpa using h), List.find?_cons_of_pos (by simpa using h)]; rfl
    · rw [List.find?_cons_of_neg (by simpa using h), List.find?_cons_of_neg (by simpa using h)]; exact ih
theorem put_vs (vs : Vs) (x : Str) (v : Int) : putKD (vsD vs) (.inr x) (.int v) = vsD (vput vs x v) := by
  unfold putKD vput
  have e : ((vsD vs).any fun kv => decide (kv.1 = Sum.inr x)) = vs.any fun p => decide (p.1 = x) := by
    unfold vsD
    rw [List.any_map]
    congr 1
    funext p
    simp
  rw [e]
  by_cases h : (vs.any fun p => decide (p.1 = x)) = true
  · rw [if_pos h, if_pos h]
    unfold vsD
    rw [List.map_map, List.map_map]
    refine List.map_congr_left fun p _ => ?_
    show (if (Sum.inr p.1 : L2.Key) = Sum.inr x then ((Sum.inr p.1 : L2.Key), D.int v) else (Sum.inr p.1, D.int p.2)) = ((Sum.inr (if p.1 = x then (p.1, v) else p).1 : L2.Key), D.int (if p.1 = x then (p.1, v) else p).2)
    by_cases q : p.1 = x
    · rw [if_pos (by rw [q]), if_pos q]
    · rw [if_neg (fun z => q (Sum.inr.inj z)), if_neg q]
  · rw [if_neg h, if_neg h]
    unfold vsD
    rw [List.map_append]; rfl
theorem vget_put (vs : Vs) (x y : Str) (v : Int) : vget (vput vs x v) y = if y = x then some v else vget vs y := by
  unfold vput vget
  by_cases h : (vs.any fun p => decide (p.1 = x)) = true
  · rw [if_pos h]
    induction vs with
    | nil => cases h
    | cons p vs ih =>
      rw [List.map_cons]
      by_cases q : p.1 = x
      · rw [if_pos q]
        by_cases r : y = x
        · rw [if_pos r, List.find?_cons_of_pos (by simp [q, r])]; rfl
        · rw [if_neg r, List.find?_cons_of_neg (by simp [q]; exact fun z => r z.symm), List.find?_cons_of_neg (by simp [q]; exact fun z => r z.symm)]
          by_cases h2 : (vs.any fun p => decide (p.1 = x)) = true
          · rw [ih h2, if_neg r]
          · have e : (vs.map fun p => if p.1 = x then (p.1, v) else p) = vs := by
              conv => rhs; rw [← List.map_id vs]
              refine List.map_congr_left fun z hz => ?_
              have : ¬ z.1 = x := fun z' => h2 (List.any_eq_true.mpr ⟨z, hz, decide_eq_true z'⟩)
              rw [if_neg this]; rfl
            rw [e]
      · rw [if_neg q]
        have h2 : (vs.any fun p => decide (p.1 = x)) = true := by simpa [q] using h
        by_cases r : p.1 = y
        · rw [List.find?_cons_of_pos (by simpa using r), if_neg (fun z => q (r.trans z)), List.find?_cons_of_pos (by simpa using r)]
        · rw [List.find?_cons_of_neg (by simpa using r), List.find?_cons_of_neg (by simpa using r)]
          exact ih h2
  · rw [if_neg h]
    have hn : ∀ p ∈ vs, ¬ p.1 = x := fun p hp z => h (List.any_eq_true.mpr ⟨p, hp, decide_eq_true z⟩)
    rw [List.find?_append]
    by_cases r : y = x
    · have : vs.find? (fun p => decide (p.1 = y)) = none := List.find?_eq_none.mpr fun p hp => by simpa [r] using hn p hp
      rw [this, if_pos r]
      simp [r]
    · rw [if_neg r]
      cases vs.find? (fun p => decide (p.1 = y)) with
      | some p => rfl
      | none =>
        rw [Option.none_or, List.find?_cons_of_neg (by simpa using fun z : x = y => r z.symm)]; rfl
theorem snoc_ind' {α : Type} {P : List α → Prop} (h0 : P []) (h1 : ∀ l x, P l → P (l ++ [x])) (l : List α) : P l := by
  have : ∀ m : List α, P m.reverse := by
    intro m
    induction m with
    | nil => exact h0
    | cons x m ih => rw [List.reverse_cons]; exact h1 _ _ ih
  have q := this l.reverse
  rw [List.reverse_reverse] at q
  exact q
abbrev Row := Toy.Ev × List Int × Option Int
def rdy (vs : Vs) (e : Toy.Ev) : Bool := e.needs.all fun x => (vget vs x).isSome
def keyV (vs : Vs) (e : Toy.Ev) : List Int := e.needs.map fun x => (vget vs x).getD 0
def valT (T : Tb) (e : Toy.Ev) (ks : List Int) : Option Int := findO ((atT T e.at_).getD []) e.nm ks
def stepW (T : Tb) (s : Vs × List Row) (e : Toy.Ev) : Vs × List Row :=
  if rdy s.1 e = true then ((match valT T e (keyV s.1 e) with | some v => vput s.1 e.nm v | none => s.1), s.2 ++ [(e, keyV s.1 e, valT T e (keyV s.1 e))]) else s
def walkF (T : Tb) (es : List Toy.Ev) : Vs × List Row := es.foldl (stepW T) ([], [])
theorem walkF_snoc (T : Tb) (es : List Toy.Ev) (e : Toy.Ev) : walkF T (es ++ [e]) = stepW T (walkF T es) e := by
  unfold walkF; rw [List.foldl_append]; rfl
theorem walkF_len (T : Tb) (es : List Toy.Ev) : (walkF T es).2.length ≤ es.length ∧ (walkF T es).1.length ≤ es.length := by
  refine snoc_ind' (P := fun es => (walkF T es).2.length ≤ es.length ∧ (walkF T es).1.length ≤ es.length) ⟨Nat.le_refl _, Nat.le_refl _⟩ (fun es e ih => ?_) es
  rw [walkF_snoc]
  unfold stepW
  rw [List.length_append]
  have pl : ∀ (vs : Vs) x v, (vput vs x v).length ≤ vs.length + 1 := fun vs x v => by
    unfold vput
    split
    · rw [List.length_map]; omega
    · rw [List.length_append]; exact Nat.le_refl _
  by_cases h : rdy (walkF T es).1 e = true
  · rw [if_pos h]
    refine ⟨?_, ?_⟩
    · show (_ ++ _ : List _).length ≤ _
      rw [List.length_append]; show _ + 1 ≤ _ + 1; omega
    · show List.length (match valT T e (keyV (walkF T es).1 e) with | some v => vput (walkF T es).1 e.nm v | none => (walkF T es).1) ≤ _ + 1
      cases valT T e (keyV (walkF T es).1 e) with
      | none => show List.length (walkF T es).1 ≤ _; omega
      | some v => have := pl (walkF T es).1 e.nm v; show List.length (vput (walkF T es).1 e.nm v) ≤ _; omega
  · rw [if_neg h]
    show _ ≤ _ + 1 ∧ _ ≤ _ + 1
    omega
def toldF (T : Tb) (es : List Toy.Ev) : List Ent := (walkF T es).2.filterMap fun r => r.2.2.map fun v => ⟨r.1.nm, r.2.1, v⟩
def rowP (CE : Addr) (r : Row) : D := .tup [evD CE r.1, .tup (r.2.1.map .int), optD r.2.2]
def rowL (r : Row) : D := .tup [.str r.1.nm, .int r.1.at_, .tup (r.2.1.map .int), optD r.2.2]
def hasN (vs : Vs) : D → D
  | .str x => .bl (vget vs x).isSome
  | _ => .non
def getN (vs : Vs) : D → D
  | .str x => .int ((vget vs x).getD 0)
  | _ => .non
def fitEv (e : Toy.Ev) : Prop := e.needs.length ≤ 3 ∧ fit (.str e.nm) = true
def spWalkP (CO CE : Addr) : L3.Spec := fun bag n ds Φ => ∃ (es : List Toy.Ev) (T : Tb), ds = [ordD CO CE es, .dct (tbD T)] ∧ es.length ≤ 12 ∧ (∀ e ∈ es, fitEv e) ∧ goodT T ∧ Φ n (.lst ((walkF T es).2.map (rowP CE)))
def spWalkL : L3.Spec := fun bag n ds Φ => ∃ (es : List Toy.Ev) (T : Tb), ds = [.lst (es.map evT), .dct (tbD T)] ∧ es.length ≤ 12 ∧ (∀ e ∈ es, fitEv e) ∧ goodT T ∧ Φ n (.lst ((walkF T es).2.map rowL))
def spPlayP (CO CE : Addr) : L3.Spec := fun bag n ds Φ => ∃ (es : List Toy.Ev) (T : Tb), ds = [ordD CO CE es, .dct (tbD T)] ∧ es.length ≤ 12 ∧ (∀ e ∈ es, fitEv e) ∧ goodT T ∧ Φ n (copyD (toldF T es))
def spPlayL : L3.Spec := fun bag n ds Φ => ∃ (es : List Toy.Ev) (T : Tb), ds = [.lst (es.map evT), .dct (tbD T)] ∧ es.length ≤ 12 ∧ (∀ e ∈ es, fitEv e) ∧ goodT T ∧ Φ n (copyD (toldF T es))
theorem goodE_nil : goodE [] := ⟨Nat.zero_le _, fun _ h => nomatch h⟩
theorem good_at {T : Tb} (hT : goodT T) (e : Int) : goodE ((atT T e).getD []) := by
  cases h : atT T e with
  | none => exact goodE_nil
  | some E => exact at_good hT h
theorem rdy_get {vs : Vs} {e : Toy.Ev} (h : rdy vs e = true) {x : Str} (hx : x ∈ e.needs) : ∃ v, vget vs x = some v := Option.isSome_iff_exists.mp (List.all_eq_true.mp h x hx)
abbrev s_walk : Stmt := top 20
abbrev N_walk : List Str := ["order", "tables", "values", "found", "event", "need", "key", "value"]
theorem sc_walk : FnScope N_walk ["order", "tables"] (defScope s_walk) := ⟨rfl, rfl, rfl, by decide +kernel, rfl, by decide +kernel, by decide +kernel⟩

theorem ok_walk {CO CE : Addr} {f : Addr} {fd : FuncData} (F : Fun K "walk" "walk" s_walk f fd) (T : Txt mg) (TO : OrT K CO) (TE : EvT K CE) (D_entry_value : Dn P w K mg base "entry_value" 1 ["table", "name", "key"] [] [] spFind) : FnOk P w K mg base CX0 2 f fd ["order", "tables"] (spD K (spWalkP CO CE)) := by
  refine fn_D F sc_walk (fun bag n ds Φ h => ?_) (fun cdv A outer s H E O bag n ds Φ hr h => ?_)
  · obtain ⟨E, Tb, e, _⟩ := h
    rw [e]; rfl
  · obtain ⟨es, Tb, he, h12, hf, hT, kk⟩ := h
    subst he
    refine ⟨_, (pss_cons (ps_set (i := 2) sc_walk.nd rfl (Or.inr rfl) pe_dnewK)
  (pss_cons (ps_set (i := 3) sc_walk.nd rfl (Or.inl rfl) (pe_lst pa_nil))
  (pss_cons (ps_for PassesOwn.never rfl (x_seq K (x_fld K (pe_fld (pv 0) rfl))) (pg_name (i := 4) sc_walk.nd rfl (Or.inl rfl)) (pss_one (ps_if (pt_val (pe_callB (x_all K) (by rfl) T.b_all (by decide +kernel) (pa_cons (pe_lc (own := [("need", 5)]) (g := gName 5) (tt := tYes) rfl sc_walk.nd (x_seq K (x_fld K (pe_fld (pv 4) rfl))) (blkOk_by (own := [("need", 5)]) (N := N_walk) (sc := defScope s_walk) (by decide +kernel)) (fun _ _ _ _ _ => (pg_name (i := 5) sc_walk.nd rfl (Or.inl rfl))) (fun _ _ _ _ _ => pts_nil) (fun _ _ _ _ _ => (pe_cmp (pc_din (by exact hu1 hr) (pv 5) (pv 2))))) pa_nil))) (pss_cons (ps_set (i := 6) sc_walk.nd rfl (Or.inl rfl) (pe_callTy (x_tup K) (by rfl) T.b_tuple (by decide +kernel) (pa_cons (pe_lc (own := [("need", 5)]) (g := gName 5) (tt := tYes) rfl sc_walk.nd (x_seq K (x_fld K (pe_fld (pv 4) rfl))) (blkOk_by (own := [("need", 5)]) (N := N_walk) (sc := defScope s_walk) (by decide +kernel)) (fun _ _ _ _ _ => (pg_name (i := 5) sc_walk.nd rfl (Or.inl rfl))) (fun _ _ _ _ _ => pts_nil) (fun _ _ _ _ _ => (pe_dget (by exact hu1 hr) (pv 2) (pv 5) (fun _ _ => rfl)))) pa_nil)))
  (pss_cons (ps_set (i := 7) sc_walk.nd rfl (Or.inl rfl) (pe_call D_entry_value.G (hr.mono (by decide)) (by rfl) D_entry_value.m D_entry_value.k D_entry_value.b D_entry_value.v pass0 (pa_cons (pe_dget2 (by exact hu1 hr) (pv 1) (x_fld K (pe_fld (pv 4) rfl)) (pe_tup pa_nil) ⟨rfl, rfl, rfl, rfl⟩) (pa_cons (x_fld K (pe_fld (pv 4) rfl)) (pa_cons (pv 6) pa_nil)))))
  (pss_cons (ps_if (pt_cmpR op_notN1 (pv 7) pe_non (nomark _)) (pss_one (ps_dput (by exact hu1 hr) (pv 2) (x_fld K (pe_fld (pv 4) rfl)) (pv 7) rfl)) pss_nil)
  (pss_one (ps_expr (pe_bm PySem.F.plainAttrs_list PySem.F.slot_list_append PySem.F.type_list_append mt_append (pv 3) (pa_cons (pe_tup (pa_cons (pv 4) (pa_cons (pv 6) (pa_cons (pv 7) pa_nil)))) pa_nil))))))) pss_nil)))
  (pss_one (ps_ret (pv 3)))))), ?_⟩
    show WS _ _ [.val (ordD CO CE es), .val (.dct (tbD Tb)), .un, .un, .un, .un, .un, .un] n _
    walk_at "ws1"
    refine ws_knew (i := 2) (Nat.le_of_ble_eq_true rfl) ?_
    walk_at "ws1"
    refine ws_own (i := 3) (Nat.le_of_ble_eq_true rfl) (wf_lst (wa_nil ⟨Nat.zero_le _, ?_⟩))
    walk_at "ws1"
    refine ws_for ?_
    walk_at "we1"
    refine we_fld TO.cl TO.n1 ?_
    walk_at "go"
    refine ⟨fun i m ρ => m = n ∧ ∃ x4 x5 x6 x7, ρ = [.val (ordD CO CE es), .val (.dct (tbD Tb)), .dk (vsD (walkF Tb (es.take i)).1), .own ((walkF Tb (es.take i)).2.map (rowP CE)), x4, x5, x6, x7], ⟨rfl, _, _, _, _, rfl⟩, ?_, ?_⟩
    · rintro i m ρ1 d hd ⟨rfl, x4, x5, x6, x7, rfl⟩
      obtain ⟨e, hee, rfl, hm, tk⟩ := map_at hd
      obtain ⟨h3, hn⟩ := hf e hm
      have hl := walkF_len Tb (es.take i)
      rw [List.length_take] at hl
      obtain ⟨vs, rows, hS⟩ : ∃ vs rows, walkF Tb (es.take i) = (vs, rows) := ⟨_, _, rfl⟩
      rw [hS] at hl ⊢
      have hl1 : rows.length ≤ min i es.length := hl.1
      have hl2 : vs.length ≤ min i es.length := hl.2
      walk_at "wg1"
      refine ws_if (wt_lookK 2 rfl ?_)
      walk_at "we1"
      refine we_cb (wa_cons (wf_we (wf_map (hasN vs) (fun _ => true) ?_)))
      walk_at "we1"
      refine we_fld TE.cl TE.n4 ?_
      walk_at "go"
      refine ⟨by rw [List.length_map]; omega, fun d hd m => ?_, ?_⟩
      · obtain ⟨x, _, rfl⟩ := List.mem_map.mp hd
        walk_at "go"
        refine ⟨rfl, rfl, fun _ => ?_⟩
        refine we_din ?_
        walk_at "go"
        refine ⟨_, _, rfl, rfl, rfl, ?_⟩
        rw [look_vs]
        show D.bl _ = D.bl (vget vs x).isSome
        cases vget vs x <;> rfl
      rw [filt_all, List.map_map]
      have e1 : e.needs.map (hasN vs ∘ D.str) = (e.needs.map fun x => (vget vs x).isSome).map D.bl := by rw [List.map_map]; rfl
      rw [e1]
      refine wa_nil (rc_all ?_)
      have e2 : (e.needs.map fun x => (vget vs x).isSome).all id = rdy vs e := by unfold rdy; rw [List.all_map]; rfl
      rw [e2]
      refine ⟨_, rfl, boo2 (fun hr1 => ?_) (fun hr1 => ?_)⟩
      · walk_at "ws1"
        walk_at "ws1"
        refine we_cb (wa_cons (wf_we (wf_map (getN vs) (fun _ => true) ?_)))
        walk_at "we1"
        refine we_fld TE.cl TE.n4 ?_
        walk_at "go"
        refine ⟨by rw [List.length_map]; omega, fun d hd m => ?_, ?_⟩
        · obtain ⟨x, hx, rfl⟩ := List.mem_map.mp hd
          obtain ⟨v, hv⟩ := rdy_get hr1 hx
          walk_at "go"
          refine ⟨rfl, rfl, fun _ => ?_⟩
          refine we_kget (i := 2) (kvs := vsD vs) rfl ?_
          walk_at "go"
          refine ⟨.int v, by rw [look_vs, hv]; rfl, rfl, ?_⟩
          show D.int v = D.int ((vget vs x).getD 0)
          rw [hv]; rfl
        rw [filt_all, List.map_map]
        refine wa_nil (rc_tup rfl ?_)
        have e3 : e.needs.map (getN vs ∘ D.str) = (keyV vs e).map .int := by unfold keyV; rw [List.map_map]; rfl
        rw [e3]
        walk_at "ws1"
        walk_at "ws1"
        walk_at "we1"
        refine wa_cons (we_dget2 ?_)
        walk_at "go"
        refine we_fld TE.cl TE.n2 ?_
        walk_at "go"
        refine ⟨Nat.zero_le _, _, rfl, ?_⟩
        rw [look_tb]
        have e4 : ((atT Tb e.at_).map copyD).getD (.tup []) = copyD ((atT Tb e.at_).getD []) := by cases atT Tb e.at_ <;> rfl
        rw [e4]
        walk_at "we1"
        refine we_fld TE.cl TE.n1 ?_
        walk_at "go"
        have gE := good_at hT e.at_
        refine ⟨_, e.nm, keyV vs e, rfl, by have := gE.1; omega, gE.2, hn, ?_⟩
        rw [findE_O]
        have ev : findO ((atT Tb e.at_).getD []) e.nm (keyV vs e) = valT Tb e (keyV vs e) := rfl
        rw [ev]
        walk_at "ws1"
        walk_at "ws1"
        walk_at "go"
        cases ho : valT Tb e (keyV vs e) with
        | none =>
          refine itF rfl ?_
          walk_at "ws1"
          refine ws_append (i := 3) (ds := rows.map (rowP CE)) rfl ?_
          walk_at "go"
          refine ⟨Nat.le_of_ble_eq_true rfl, by rw [List.length_map, sizeLine_eq]; omega, rfl, .val (evD CE e), x5, .val (.tup ((keyV vs e).map .int)), .val (optD none), ?_⟩
          rw [tk, walkF_snoc, hS]
          unfold stepW
          rw [if_pos hr1, ho, List.map_append]; rfl
        | some v =>
          refine itT rfl ?_
          refine ws_kput (i := 2) (kvs := vsD vs) rfl (by unfold vsD; rw [List.length_map]; omega) ?_
          walk_at "go"
          refine we_fld TE.cl TE.n1 ?_
          walk_at "go"
          refine ws_append (i := 3) (ds := rows.map (rowP CE)) rfl ?_
          walk_at "go"
          refine ⟨Nat.le_of_ble_eq_true rfl, by rw [List.length_map, sizeLine_eq]; omega, rfl, .val (evD CE e), x5, .val (.tup ((keyV vs e).map .int)), .val (optD (some v)), ?_⟩
          rw [tk, walkF_snoc, hS]
          unfold stepW
          rw [if_pos hr1, ho, List.map_append]
          have ep : putKD (vsD vs) (Sum.inr e.nm) (optD (some v)) = vsD (vput vs e.nm v) := put_vs vs e.nm v
          rw [ep]; rfl
      · walk_at "ws1"
        refine ⟨rfl, .val (evD CE e), x5, x6, x7, ?_⟩
        rw [tk, walkF_snoc, hS]
        unfold stepW
        rw [if_neg (by rw [hr1]; decide)]; rfl
    · rintro m ρ1 ⟨rfl, x4, x5, x6, x7, rfl⟩
      refine ws_freeze 3 rfl ?_
      rw [List.length_map, List.take_length]
      walk_at "ws1"
      walk_at "go"
      exact kk
abbrev s_law_walk : Stmt := top 34
abbrev N_law_walk : List Str := ["events", "tables", "values", "found", "name", "end", "kind", "needs", "need", "key", "value"]
theorem sc_law_walk : FnScope N_law_walk ["events", "tables"] (defScope s_law_walk) := ⟨rfl, rfl, rfl, by decide +kernel, rfl, by decide +kernel, by decide +kernel⟩

theorem ok_lwalk {f : Addr} {fd : FuncData} (F : Fun K "_law_walk" "_law_walk" s_law_walk f fd) (T : Txt mg) (D_law_find : Dn P w K mg base "_law_find" 1 ["table", "name", "key"] [] [] spFind) : FnOk P w K mg base CX0 2 f fd ["events", "tables"] (spD K spWalkL) := by
  refine fn_D F sc_law_walk (fun bag n ds Φ h => ?_) (fun cdv A outer s H E O bag n ds Φ hr h => ?_)
  · obtain ⟨E, Tb, e, _⟩ := h
    rw [e]; rfl
  · obtain ⟨es, Tb, he, h12, hf, hT, kk⟩ := h
    subst he
    refine ⟨_, (pss_cons (ps_set (i := 2) sc_law_walk.nd rfl (Or.inr rfl) pe_dnewK)
  (pss_cons (ps_set (i := 3) sc_law_walk.nd rfl (Or.inl rfl) (pe_lst pa_nil))
  (pss_cons (ps_for PassesOwn.never rfl (x_seq K (pv 0)) (x_tgt K (pg_tup (by rfl) (pgs_cons (pg_name (i := 4) sc_law_walk.nd rfl (Or.inl rfl)) (pgs_cons (pg_name (i := 5) sc_law_walk.nd rfl (Or.inl rfl)) (pgs_cons (pg_name (i := 6) sc_law_walk.nd rfl (Or.inl rfl)) (pgs_cons (pg_name (i := 7) sc_law_walk.nd rfl (Or.inl rfl)) pgs_nil)))))) (pss_one (ps_if (pt_val (pe_callB (x_all K) (by rfl) T.b_all (by decide +kernel) (pa_cons (pe_lc (own := [("need", 8)]) (g := gName 8) (tt := tYes) rfl sc_law_walk.nd (x_seq K (pv 7)) (blkOk_by (own := [("need", 8)]) (N := N_law_walk) (sc := defScope s_law_walk) (by decide +kernel)) (fun _ _ _ _ _ => (pg_name (i := 8) sc_law_walk.nd rfl (Or.inl rfl))) (fun _ _ _ _ _ => pts_nil) (fun _ _ _ _ _ => (pe_cmp (pc_din (by exact hu1 hr) (pv 8) (pv 2))))) pa_nil))) (pss_cons (ps_set (i := 9) sc_law_walk.nd rfl (Or.inl rfl) (pe_callTy (x_tup K) (by rfl) T.b_tuple (by decide +kernel) (pa_cons (pe_lc (own := [("need", 8)]) (g := gName 8) (tt := tYes) rfl sc_law_walk.nd (x_seq K (pv 7)) (blkOk_by (own := [("need", 8)]) (N := N_law_walk) (sc := defScope s_law_walk) (by decide +kernel)) (fun _ _ _ _ _ => (pg_name (i := 8) sc_law_walk.nd rfl (Or.inl rfl))) (fun _ _ _ _ _ => pts_nil) (fun _ _ _ _ _ => (pe_dget (by exact hu1 hr) (pv 2) (pv 8) (fun _ _ => rfl)))) pa_nil)))
  (pss_cons (ps_set (i := 10) sc_law_walk.nd rfl (Or.inl rfl) (pe_ifExp (pt_cmp (pc_din (by exact hu1 hr) (pv 5) (pv 1))) (pe_call D_law_find.G (hr.mono (by decide)) (by rfl) D_law_find.m D_law_find.k D_law_find.b D_law_find.v pass0 (pa_cons (pe_dget (by exact hu1 hr) (pv 1) (pv 5) (fun _ _ => rfl)) (pa_cons (pv 4) (pa_cons (pv 9) pa_nil)))) pe_non))
  (pss_cons (ps_if (pt_cmpR op_notN1 (pv 10) pe_non (nomark _)) (pss_one (ps_dput (by exact hu1 hr) (pv 2) (pv 4) (pv 10) rfl)) pss_nil)
  (pss_one (ps_expr (pe_bm PySem.F.plainAttrs_list PySem.F.slot_list_append PySem.F.type_list_append mt_append (pv 3) (pa_cons (pe_tup (pa_cons (pv 4) (pa_cons (pv 5) (pa_cons (pv 9) (pa_cons (pv 10) pa_nil))))) pa_nil))))))) pss_nil)))
  (pss_one (ps_ret (pv 3)))))), ?_⟩
    show WS _ _ [.val (.lst (es.map evT)), .val (.dct (tbD Tb)), .un, .un, .un, .un, .un, .un, .un, .un, .un] n _
    walk_at "ws1"
    refine ws_knew (i := 2) (Nat.le_of_ble_eq_true rfl) ?_
    walk_at "ws1"
    refine ws_own (i := 3) (Nat.le_of_ble_eq_true rfl) (wf_lst (wa_nil ⟨Nat.zero_le _, ?_⟩))
    walk_at "ws1"
    refine ws_for ?_
    walk_at "we1"
    walk_at "go"
    refine ⟨fun i m ρ => m = n ∧ ∃ x4 x5 x6 x7 x8 x9 x10, ρ = [.val (.lst (es.map evT)), .val (.dct (tbD Tb)), .dk (vsD (walkF Tb (es.take i)).1), .own ((walkF Tb (es.take i)).2.map rowL), x4, x5, x6, x7, x8, x9, x10], ⟨rfl, _, _, _, _, _, _, _, rfl⟩, ?_, ?_⟩
    · rintro i m ρ1 d hd ⟨rfl, x4, x5, x6, x7, x8, x9, x10, rfl⟩
      obtain ⟨e, hee, rfl, hm, tk⟩ := map_at hd
      obtain ⟨h3, hn⟩ := hf e hm
      have hl := walkF_len Tb (es.take i)
      rw [List.length_take] at hl
      obtain ⟨vs, rows, hS⟩ : ∃ vs rows, walkF Tb (es.take i) = (vs, rows) := ⟨_, _, rfl⟩
      rw [hS] at hl ⊢
      have hl1 : rows.length ≤ min i es.length := hl.1
      have hl2 : vs.length ≤ min i es.length := hl.2
      walk_at "go"
      refine ws_if (wt_lookK 2 rfl ?_)
      walk_at "we1"
      refine we_cb (wa_cons (wf_we (wf_map (hasN vs) (fun _ => true) ?_)))
      walk_at "we1"
      walk_at "go"
      refine ⟨by rw [List.length_map]; omega, fun d hd m => ?_, ?_⟩
      · obtain ⟨x, _, rfl⟩ := List.mem_map.mp hd
        walk_at "go"
        refine ⟨rfl, rfl, fun _ => ?_⟩
        refine we_din ?_
        walk_at "go"
        refine ⟨_, _, rfl, rfl, rfl, ?_⟩
        rw [look_vs]
        show D.bl _ = D.bl (vget vs x).isSome
        cases vget vs x <;> rfl
      rw [filt_all, List.map_map]
      have e1 : e.needs.map (hasN vs ∘ D.str) = (e.needs.map fun x => (vget vs x).isSome).map D.bl := by rw [List.map_map]; rfl
      rw [e1]
      refine wa_nil (rc_all ?_)
      have e2 : (e.needs.map fun x => (vget vs x).isSome).all id = rdy vs e := by unfold rdy; rw [List.all_map]; rfl
      rw [e2]
      refine ⟨_, rfl, boo2 (fun hr1 => ?_) (fun hr1 => ?_)⟩
      · walk_at "ws1"
        walk_at "ws1"
        refine we_cb (wa_cons (wf_we (wf_map (getN vs) (fun _ => true) ?_)))
        walk_at "we1"
        walk_at "go"
        refine ⟨by rw [List.length_map]; omega, fun d hd m => ?_, ?_⟩
        · obtain ⟨x, hx, rfl⟩ := List.mem_map.mp hd
          obtain ⟨v, hv⟩ := rdy_get hr1 hx
          walk_at "go"
          refine ⟨rfl, rfl, fun _ => ?_⟩
          refine we_kget (i := 2) (kvs := vsD vs) rfl ?_
          walk_at "go"
          refine ⟨.int v, by rw [look_vs, hv]; rfl, rfl, ?_⟩
          show D.int v = D.int ((vget vs x).getD 0)
          rw [hv]; rfl
        rw [filt_all, List.map_map]
        refine wa_nil (rc_tup rfl ?_)
        have e3 : e.needs.map (getN vs ∘ D.str) = (keyV vs e).map .int := by unfold keyV; rw [List.map_map]; rfl
        rw [e3]
        walk_at "ws1"
        walk_at "ws1"
        walk_at "we1"
        walk_at "we1"
        refine we_din ?_
        walk_at "go"
        refine ⟨_, _, rfl, rfl, ?_⟩
        rw [look_tb]
        refine ⟨_, rfl, ?_⟩
        have key : ∀ o : Option Int, o = valT Tb e (keyV vs e) → WS ⟨P, w, K, O, bag, H⟩ (tSeq (tIfS (tTest (tOp rNotN (tVar 10) (tC .non))) (sDPut (tVar 2) (tVar 4) (tVar 10)) tNext) (tDrop (tBM K "list" rAppend (tVar 3) (tCons (tTup (tCons (tVar 4) (tCons (tVar 5) (tCons (tVar 9) (tCons (tVar 10) tNil))))) tNil))))
            [.val (.lst (es.map evT)), .val (.dct (tbD Tb)), .dk (vsD vs), .own (rows.map rowL), .val (.str e.nm), .val (.int e.at_), .val (.str e.kind), .val (.tup (e.needs.map .str)), x8, .val (.tup ((keyV vs e).map .int)), .val (optD o)] m
            { nx := (fun i m_1 ρ => m_1 = m ∧ ∃ x4 x5 x6 x7 x8 x9 x10, ρ = [.val (.lst (es.map evT)), .val (.dct (tbD Tb)), .dk (vsD (walkF Tb (es.take i)).1), .own ((walkF Tb (es.take i)).2.map rowL), x4, x5, x6, x7, x8, x9, x10]) (i + 1), rt := fun _ _ => False } := by
          intro o ho
          walk_at "ws1"
          walk_at "ws1"
          walk_at "go"
          cases o with
          | none =>
            refine itF rfl ?_
            walk_at "ws1"
            refine ws_append (i := 3) (ds := rows.map rowL) rfl ?_
            walk_at "go"
            refine ⟨Nat.le_of_ble_eq_true rfl, by rw [List.length_map, sizeLine_eq]; omega, rfl, .val (.str e.nm), .val (.int e.at_), .val (.str e.kind), .val (.tup (e.needs.map .str)), x8, .val (.tup ((keyV vs e).map .int)), .val (optD none), ?_⟩
            rw [tk, walkF_snoc, hS]
            unfold stepW
            rw [if_pos hr1, ← ho, List.map_append]; rfl
          | some v =>
            refine itT rfl ?_
            refine ws_kput (i := 2) (kvs := vsD vs) rfl (by unfold vsD; rw [List.length_map]; omega) ?_
            walk_at "go"
            refine ws_append (i := 3) (ds := rows.map rowL) rfl ?_
            walk_at "go"
            refine ⟨Nat.le_of_ble_eq_true rfl, by rw [List.length_map, sizeLine_eq]; omega, rfl, .val (.str e.nm), .val (.int e.at_), .val (.str e.kind), .val (.tup (e.needs.map .str)), x8, .val (.tup ((keyV vs e).map .int)), .val (optD (some v)), ?_⟩
            rw [tk, walkF_snoc, hS]
            unfold stepW
            rw [if_pos hr1, ← ho, List.map_append]
            have ep : putKD (vsD vs) (Sum.inr e.nm) (optD (some v)) = vsD (vput vs e.nm v) := put_vs vs e.nm v
            rw [ep]; rfl
        cases hat : atT Tb e.at_ with
        | none =>
          refine itF rfl ?_
          walk_at "go"
          have hv : valT Tb e (keyV vs e) = none := by unfold valT; rw [hat]; rfl
          exact (key none hv.symm).mono (fun _ _ h => h) (fun _ _ h => h.elim) (fun _ _ h => h.elim) (fun _ _ h => h.elim)
        | some E2 =>
          refine itT rfl ?_
          walk_at "we1"
          refine wa_cons (we_dget1 ?_)
          walk_at "go"
          refine ⟨copyD E2, by rw [look_tb, hat]; rfl, ?_⟩
          walk_at "go"
          have gE := at_good hT hat
          refine ⟨E2, e.nm, keyV vs e, rfl, by have := gE.1; omega, gE.2, hn, ?_⟩
          rw [findE_O]
          have hv : findO E2 e.nm (keyV vs e) = valT Tb e (keyV vs e) := by unfold valT; rw [hat]; rfl
          exact (key _ hv).mono (fun _ _ h => h) (fun _ _ h => h.elim) (fun _ _ h => h.elim) (fun _ _ h => h.elim)
      · walk_at "ws1"
        refine ⟨rfl, .val (.str e.nm), .val (.int e.at_), .val (.str e.kind), .val (.tup (e.needs.map .str)), x8, x9, x10, ?_⟩
        rw [tk, walkF_snoc, hS]
        unfold stepW
        rw [if_neg (by rw [hr1]; decide)]; rfl
    · rintro m ρ1 ⟨rfl, x4, x5, x6, x7, x8, x9, x10, rfl⟩
      refine ws_freeze 3 rfl ?_
      rw [List.length_map, List.take_length]
      walk_at "ws1"
      walk_at "go"
      exact kk
def hasR : D → Bool
  | .tup [_, _, v] => !isNon v
  | .tup [_, _, _, v] => !isNon v
  | _ => false
def entR : D → D
  | .tup [.obj _ fs, k, v] => .tup [(fs.lookup ("name" : Str)).getD .non, k, v]
  | .tup [a, _, k, v] => .tup [a, k, v]
  | _ => .non
theorem told_P (CE : Addr) : ∀ rows : List Row, ((rows.map (rowP CE)).filter hasR).map entR = (rows.filterMap fun r => r.2.2.map fun v => (⟨r.1.nm, r.2.1, v⟩ : Ent)).map entD
  | [] => rfl
  | (e, ks, o) :: rows => by
    have ih := told_P CE rows
    cases o with
    | none =>
      rw [List.map_cons, List.filter_cons_of_neg (by show ¬ (!true) = true; decide), List.filterMap_cons_none rfl]; exact ih
    | some v =>
      rw [List.map_cons, List.filter_cons_of_pos (by show (!false) = true; rfl), List.map_cons]; exact congrArg (List.cons (entD ⟨e.nm, ks, v⟩)) ih
theorem told_L : ∀ rows : List Row, ((rows.map rowL).filter hasR).map entR = (rows.filterMap fun r => r.2.2.map fun v => (⟨r.1.nm, r.2.1, v⟩ : Ent)).map entD
  | [] => rfl
  | (e, ks, o) :: rows => by
    have ih := told_L rows
    cases o with
    | none =>
      rw [List.map_cons, List.filter_cons_of_neg (by show ¬ (!true) = true; decide), List.filterMap_cons_none rfl]; exact ih
    | some v =>
      rw [List.map_cons, List.filter_cons_of_pos (by show (!false) = true; rfl), List.map_cons]; exact congrArg (List.cons (entD ⟨e.nm, ks, v⟩)) ih
abbrev s_play : Stmt := top 21
abbrev N_play : List Str := ["order", "tables", "event", "key", "value"]
theorem sc_play : FnScope N_play ["order", "tables"] (defScope s_play) := ⟨rfl, rfl, rfl, by decide +kernel, rfl, by decide +kernel, by decide +kernel⟩

theorem ok_play {CO CE : Addr} {f : Addr} {fd : FuncData} (F : Fun K "play" "play" s_play f fd) (T : Txt mg) (TE : EvT K CE) (D_walk : Dn P w K mg base "walk" 2 ["order", "tables"] [] [] (spWalkP CO CE)) : FnOk P w K mg base CX0 3 f fd ["order", "tables"] (spD K (spPlayP CO CE)) := by
  refine fn_D F sc_play (fun bag n ds Φ h => ?_) (fun cdv A outer s H E O bag n ds Φ hr h => ?_)
  · obtain ⟨E, Tb, e, _⟩ := h
    rw [e]; rfl
  · obtain ⟨es, Tb, he, h12, hf, hT, kk⟩ := h
    subst he
    refine ⟨_, (pss_one (ps_ret (pe_callTy (x_tup K) (by rfl) T.b_tuple (by decide +kernel) (pa_cons (pe_lc (own := [("event", 2), ("key", 3), ("value", 4)]) (g := gTup K 3 (gCons (gName 2) (gCons (gName 3) (gCons (gName 4) gNil)))) rfl sc_play.nd (x_seq K (pe_call D_walk.G (hr.mono (by decide)) (by rfl) D_walk.m D_walk.k D_walk.b D_walk.v pass0 (pa_cons (pv 0) (pa_cons (pv 1) pa_nil)))) (blkOk_by (own := [("event", 2), ("key", 3), ("value", 4)]) (N := N_play) (sc := defScope s_play) (by decide +kernel)) (fun _ _ _ _ _ => (x_tgt K (pg_tup (by rfl) (pgs_cons (pg_name (i := 2) sc_play.nd rfl (Or.inl rfl)) (pgs_cons (pg_name (i := 3) sc_play.nd rfl (Or.inl rfl)) (pgs_cons (pg_name (i := 4) sc_play.nd rfl (Or.inl rfl)) pgs_nil)))))) (fun _ _ _ _ _ => (pts_one (pt_cmpR op_notN1 (pv 4) pe_non (nomark _)))) (fun _ _ _ _ _ => (pe_tup (pa_cons (x_fld K (pe_fld (pv 2) rfl)) (pa_cons (pv 3) (pa_cons (pv 4) pa_nil)))))) pa_nil)))), ?_⟩
    show WS _ _ [.val (ordD CO CE es), .val (.dct (tbD Tb)), .un, .un, .un] n _
    walk_at "ws1"
    refine we_cb (wa_cons (wf_we (wf_map entR hasR ?_)))
    walk_at "we1"
    walk_at "go"
    refine ⟨es, Tb, rfl, h12, hf, hT, ?_⟩
    refine ⟨_, rfl, by rw [List.length_map]; have := (walkF_len Tb es).1; omega, fun d hd m => ?_, ?_⟩
    · obtain ⟨⟨e, ks, o⟩, _, rfl⟩ := List.mem_map.mp hd
      show WG _ _ _ (.tup [evD CE e, .tup (ks.map .int), optD o]) _ _ _
      walk_at "go"
      refine ⟨rfl, by cases o <;> rfl, fun _ => ?_⟩
      walk_at "we1"
      refine wa_cons (we_fld TE.cl TE.n1 ?_)
      walk_at "go"
      exact ⟨Nat.le_of_ble_eq_true rfl, rfl, rfl⟩
    rw [told_P]
    refine wa_nil (rc_tup rfl ?_)
    exact kk
abbrev s_law_due_play : Stmt := top 36
abbrev N_law_due_play : List Str := ["events", "tables", "name", "end", "key", "value"]
theorem sc_law_due_play : FnScope N_law_due_play ["events", "tables"] (defScope s_law_due_play) := ⟨rfl, rfl, rfl, by decide +kernel, rfl, by decide +kernel, by decide +kernel⟩

theorem ok_due {f : Addr} {fd : FuncData} (F : Fun K "_law_due_play" "_law_due_play" s_law_due_play f fd) (T : Txt mg) (D_law_walk : Dn P w K mg base "_law_walk" 2 ["events", "tables"] [] [] spWalkL) : FnOk P w K mg base CX0 3 f fd ["events", "tables"] (spD K spPlayL) := by
  refine fn_D F sc_law_due_play (fun bag n ds Φ h => ?_) (fun cdv A outer s H E O bag n ds Φ hr h => ?_)
  · obtain ⟨E, Tb, e, _⟩ := h
    rw [e]; rfl
  · obtain ⟨es, Tb, he, h12, hf, hT, kk⟩ := h
    subst he
    refine ⟨_, (pss_one (ps_ret (pe_callTy (x_tup K) (by rfl) T.b_tuple (by decide +kernel) (pa_cons (pe_lc (own := [("name", 2), ("end", 3), ("key", 4), ("value", 5)]) (g := gTup K 4 (gCons (gName 2) (gCons (gName 3) (gCons (gName 4) (gCons (gName 5) gNil))))) rfl sc_law_due_play.nd (x_seq K (pe_call D_law_walk.G (hr.mono (by decide)) (by rfl) D_law_walk.m D_law_walk.k D_law_walk.b D_law_walk.v pass0 (pa_cons (pv 0) (pa_cons (pv 1) pa_nil)))) (blkOk_by (own := [("name", 2), ("end", 3), ("key", 4), ("value", 5)]) (N := N_law_due_play) (sc := defScope s_law_due_play) (by decide +kernel)) (fun _ _ _ _ _ => (x_tgt K (pg_tup (by rfl) (pgs_cons (pg_name (i := 2) sc_law_due_play.nd rfl (Or.inl rfl)) (pgs_cons (pg_name (i := 3) sc_law_due_play.nd rfl (Or.inl rfl)) (pgs_cons (pg_name (i := 4) sc_law_due_play.nd rfl (Or.inl rfl)) (pgs_cons (pg_name (i := 5) sc_law_due_play.nd rfl (Or.inl rfl)) pgs_nil))))))) (fun _ _ _ _ _ => (pts_one (pt_cmpR op_notN1 (pv 5) pe_non (nomark _)))) (fun _ _ _ _ _ => (pe_tup (pa_cons (pv 2) (pa_cons (pv 4) (pa_cons (pv 5) pa_nil)))))) pa_nil)))), ?_⟩
    show WS _ _ [.val (.lst (es.map evT)), .val (.dct (tbD Tb)), .un, .un, .un, .un] n _
    walk_at "ws1"
    refine we_cb (wa_cons (wf_we (wf_map entR hasR ?_)))
    walk_at "we1"
    walk_at "go"
    refine ⟨es, Tb, rfl, h12, hf, hT, ?_⟩
    refine ⟨_, rfl, by rw [List.length_map]; have := (walkF_len Tb es).1; omega, fun d hd m => ?_, ?_⟩
    · obtain ⟨⟨e, ks, o⟩, _, rfl⟩ := List.mem_map.mp hd
      show WG _ _ _ (.tup [.str e.nm, .int e.at_, .tup (ks.map .int), optD o]) _ _ _
      walk_at "go"
      refine ⟨rfl, by cases o <;> rfl, fun _ => ?_⟩
      walk_at "go"
      exact ⟨Nat.le_of_ble_eq_true rfl, rfl, rfl⟩
    rw [told_L]
    refine wa_nil (rc_tup rfl ?_)
    exact kk
end
end Toy
namespace L3
open PySem L2
theorem ws_cut {c : Ctx} {ρ : List SD} {n : Nat} {ts us : TS} {Ψ : Out} (Nx : Nat → List SD → Prop) (h : WS c ts ρ n { nx := Nx, rt := fun _ _ => False }) (k : ∀ n1 ρ1, Nx n1 ρ1 → WS c us ρ1 n1 Ψ) : WS c (tSeq ts us) ρ n Ψ :=
  ws_seq (h.mono (fun n1 ρ1 q => k n1 ρ1 q) (fun _ _ q => q.elim) (fun _ _ q => q.elim) (fun _ _ q => q.elim))
end L3
namespace Toy
open PySem L2 L3
local macro_rules | `(tactic| walk_at "we1") => `(tactic| first
  | ((with_reducible refine' we_var ?hv ?_); (case hv => rfl))
  | (with_reducible refine we_int ?_)
  | (with_reducible refine we_str ?_)
  | (with_reducible refine we_bl ?_)
  | (with_reducible refine we_non ?_)
  | ((with_reducible refine' we_dix ?hv ?_); (case hv => rfl))
  | (with_reducible refine we_op ?_)
  | ((with_reducible refine' we_dget ?hv ?_); (case hv => rfl))
  | (with_reducible refine we_count ?_)
  | (with_reducible refine we_cb ?_)
  | (with_reducible refine we_call0 ?_)
  | (with_reducible refine we_tup ?_)
  | (with_reducible refine we_lst ?_)
  | (with_reducible refine we_if ?_)
  | (with_reducible refine we_not ?_)
  | (with_reducible refine we_and ?_)
  | (with_reducible refine we_or ?_)
  | (with_reducible refine we_isN ?_)
  | (with_reducible refine we_notN ?_)
  | (with_reducible refine we_sl ?_)
  | (with_reducible refine wa_cons ?_)
  | (with_reducible refine wa_nil ?_)
  | (with_reducible refine wt_test ?_)
  | (with_reducible refine wt_B ?_)
  | (with_reducible refine wt_and ?_)
  | (with_reducible refine wt_or ?_)
  | (with_reducible refine wt_not ?_)
  | (with_reducible refine wt_yes ?_)
  | (with_reducible refine wo_none ?_)
  | (with_reducible refine wo_some ?_)
  | ((with_reducible refine' r2_ix ?hx ?_); (case hx => rfl))
  | (with_reducible refine r2_isN ?_)
  | (with_reducible refine r2_notN ?_)
  | (with_reducible refine r2_lt ?_)
  | (with_reducible refine r2_le ?_)
  | (with_reducible refine r2_gt ?_)
  | (with_reducible refine r2_ge ?_)
  | (with_reducible refine r2_sub ?_)
  | (with_reducible refine r2_addI ?_)
  | (with_reducible refine r2_eqI ?_)
  | (with_reducible refine r2_neI ?_)
  | (with_reducible refine rc_int ?_)
  | (with_reducible refine rc_abs ?_)
  | ((with_reducible refine' rc_len ?hl ?_); (case hl => rfl))
  | (with_reducible refine wi_seq ?_)
  | (with_reducible refine wi_rng1 ?_)
  | (with_reducible refine wi_rng2 ?_)
  | (with_reducible refine wi_enum ?_)
  | (refine ⟨_, rfl, ?_⟩))
local macro_rules | `(tactic| walk_at "ws1") => `(tactic| first
  | (with_reducible refine ws_seq ?_)
  | (with_reducible refine ws_set ?_)
  | (with_reducible refine ws_ret ?_)
  | (with_reducible refine ws_if ?_)
  | (with_reducible refine ws_next ?_)
  | (with_reducible refine ws_asg ?_))
local macro_rules | `(tactic| walk_at "wg1") => `(tactic| first
  | (with_reducible refine wg_name (rw_name (by decide)) ?_)
  | (with_reducible refine wg_name (fun _ _ => trivial) ?_)
  | ((with_reducible refine' wg_tup ?hl ?_); (case hl => rfl))
  | (with_reducible refine wgs_cons rw_trans ?_)
  | (with_reducible refine wgs_nil rw_refl ?_)
  | (with_reducible refine wgs_cons (fun _ _ _ _ _ => trivial) ?_)
  | (with_reducible refine wgs_nil (fun _ => trivial) ?_))
local macro_rules | `(tactic| walk_at "go") => `(tactic| repeat' (first | walk_at "we1" | walk_at "wg1"))
section
variable {P : Program} {w : World} {K : PySem.W.Frag} {mg : Str → Option Value} {base : Heap}
/-! worlds -/
abbrev Told := List (Str × List Int × Int)
structure Wd where
  told : Told
  b : Int
  f : Int
abbrev wkey (nm : Str) (ks : List Int) : D := .tup [.str nm, .tup (ks.map .int)]
def wkv (t : Told) : List (D × D) := t.map fun t => (wkey t.1 t.2.1, .int t.2.2)
def wD (P : Program) (w : World) (W : Wd) : D := .tup [.dcn P w (wkv W.told), .int W.b, .int W.f]
def wlook (t : Told) (nm : Str) (ks : List Int) : Option Int := (t.find? fun t => decide (t.1 = nm ∧ t.2.1 = ks)).map (·.2.2)
def wput (t : Told) (nm : Str) (ks : List Int) (v : Int) : Told := if (wlook t nm ks).isSome then t.map fun t => if t.1 = nm ∧ t.2.1 = ks then (t.1, t.2.1, v) else t else t ++ [(nm, ks, v)]
theorem nk_wkey (a b : Str) (ks ls : List Int) : nk (wkey a ks) = nk (wkey b ls) ↔ a = b ∧ ks = ls := by
  constructor
  · intro h
    have h' : NestedKey.tup [.text a, .tup (nkAll (ks.map D.int))] = NestedKey.tup [.text b, .tup (nkAll (ls.map D.int))] := h
    have h1 := NestedKey.tup.inj h'
    have h2 := List.cons.inj h1
    have h3 := List.cons.inj h2.2
    exact ⟨NestedKey.text.inj h2.1, nk_ints _ _ (NestedKey.tup.inj h3.1)⟩
  · rintro ⟨rfl, rfl⟩; rfl
theorem look_w (nm : Str) (ks : List Int) : ∀ t : Told, lookD (wkv t) (wkey nm ks) = (wlook t nm ks).map .int
  | [] => rfl
  | x :: t => by
    have ih := look_w nm ks t
    unfold lookD wlook wkv at *
    rw [List.map_cons]
    by_cases h : x.1 = nm ∧ x.2.1 = ks
    · rw [List.find?_cons_of_pos (by simpa [nk_wkey] using h), List.find?_cons_of_pos (by simpa using h)]; rfl
    · rw [List.find?_cons_of_neg (by simpa [nk_wkey] using h), List.find?_cons_of_neg (by simpa using h)]; exact ih
theorem put_w (t : Told) (nm : Str) (ks : List Int) (v : Int) : putD (wkv t) (wkey nm ks) (.int v) = wkv (wput t nm ks v) := by
  unfold putD wput
  rw [look_w]
  have e : ((wlook t nm ks).map D.int).isSome = (wlook t nm ks).isSome := by cases wlook t nm ks <;> rfl
  rw [e]
  by_cases h : (wlook t nm ks).isSome = true
  · rw [if_pos h, if_pos h]
    unfold wkv
    rw [List.map_map, List.map_map]
    refine List.map_congr_left fun x _ => ?_
    show (if nk (wkey x.1 x.2.1) = nk (wkey nm ks) then (wkey x.1 x.2.1, D.int v) else (wkey x.1 x.2.1, D.int x.2.2)) = (wkey (if x.1 = nm ∧ x.2.1 = ks then (x.1, x.2.1, v) else x).1 (if x.1 = nm ∧ x.2.1 = ks then (x.1, x.2.1, v) else x).2.1, D.int (if x.1 = nm ∧ x.2.1 = ks then (x.1, x.2.1, v) else x).2.2)
    by_cases q : x.1 = nm ∧ x.2.1 = ks
    · rw [if_pos ((nk_wkey _ _ _ _).mpr q), if_pos q]
    · rw [if_neg (fun z => q ((nk_wkey _ _ _ _).mp z)), if_neg q]
  · rw [if_neg h, if_neg h]
    unfold wkv
    rw [List.map_append]; rfl
theorem key_w (nm : Str) (ks : List Int) : keyD (wkey nm ks) = true := by
  have h : keyD (wkey nm ks) = ((true && (nkOkAll (ks.map D.int) && true)) && decide (max 0 (max (NestedKey.depthAll (nkAll (ks.map D.int)) + 1) 0) + 1 ≤ 8)) := rfl
  rw [h, key_ints, ndep_ints]; rfl
/-- (i + 1) * k .. -/
def wterms : Int → List Int → List Int
  | _, [] => []
  | i, k :: ks => (i + 1) * k :: wterms (i + 1) ks
def ans (W : Wd) (nm : Str) (ks : List Int) : Int := match wlook W.told nm ks with | some v => v | none => W.b + W.f * (wterms 0 ks).sum
def mulT : D → D
  | .tup [.int i, .int k] => .int ((i + 1) * k)
  | _ => .non
theorem enum_terms : ∀ (ks : List Int) (i : Int), (enumD i (ks.map .int)).map mulT = (wterms i ks).map .int
  | [], _ => rfl
  | k :: ks, i => by
    show mulT (.tup [.int i, .int k]) :: (enumD (i + 1) (ks.map .int)).map mulT = _
    rw [enum_terms ks (i + 1)]; rfl
def small (M : Nat) (ks : List Int) : Prop := ks.length ≤ 3 ∧ ∀ k ∈ ks, k.natAbs ≤ M
theorem terms_le (M : Nat) : ∀ (ks : List Int) (i : Nat), i + ks.length ≤ 3 → (∀ k ∈ ks, k.natAbs ≤ M) → (wterms (i : Int) ks).sum.natAbs ≤ ks.length * (3 * M)
  | [], _, _, _ => Nat.zero_le _
  | k :: ks, i, h, hk => by
    have hl : (k :: ks).length = ks.length + 1 := rfl
    have e : ((i : Int) + 1) = ((i + 1 : Nat) : Int) := by omega
    have ih := terms_le M ks (i + 1) (by omega) fun x hx => hk x (List.mem_cons_of_mem _ hx)
    show (((i : Int) + 1) * k + (wterms ((i : Int) + 1) ks).sum).natAbs ≤ _
    rw [e]
    have h1 := Int.natAbs_add_le (((i + 1 : Nat) : Int) * k) (wterms ((i + 1 : Nat) : Int) ks).sum
    have h2 : (((i + 1 : Nat) : Int) * k).natAbs ≤ 3 * M := by
      rw [Int.natAbs_mul]
      have a1 : ((i + 1 : Nat) : Int).natAbs ≤ 3 := by omega
      exact Nat.mul_le_mul a1 (hk k List.mem_cons_self)
    rw [hl, Nat.succ_mul]
    omega
structure okW (W : Wd) : Prop where
  n : W.told.length ≤ 100
  t : ∀ t ∈ W.told, t.2.2.natAbs ≤ 4
  b : W.b.natAbs ≤ 2 ^ 100
  f : W.f.natAbs ≤ 2
theorem wlook_mem {t : Told} {nm : Str} {ks : List Int} {v : Int} (h : wlook t nm ks = some v) : ∃ x ∈ t, x.2.2 = v := by
  unfold wlook at h
  cases q : t.find? (fun t => decide (t.1 = nm ∧ t.2.1 = ks)) with
  | none => rw [q] at h; cases h
  | some x => rw [q] at h; exact ⟨x, List.mem_of_find?_eq_some q, Option.some.inj h⟩
theorem ans_le {W : Wd} (hW : okW W) {M : Nat} (hM : 2 ^ 100 ≤ M) {nm : Str} {ks : List Int} (hk : small M ks) : (ans W nm ks).natAbs ≤ 32 * M := by
  unfold ans
  cases h : wlook W.told nm ks with
  | some v =>
    obtain ⟨x, hx, e⟩ := wlook_mem h
    have := hW.t x hx
    rw [e] at this
    show v.natAbs ≤ _
    omega
  | none =>
    show (W.b + W.f * (wterms 0 ks).sum).natAbs ≤ _
    have h1 := Int.natAbs_add_le W.b (W.f * (wterms 0 ks).sum)
    rw [Int.natAbs_mul] at h1
    have h2 := terms_le M ks 0 (by have := hk.1; omega) hk.2
    have h3 : W.f.natAbs * (wterms 0 ks).sum.natAbs ≤ 2 * (ks.length * (3 * M)) := Nat.mul_le_mul hW.f h2
    have h4 : ks.length * (3 * M) ≤ 3 * (3 * M) := Nat.mul_le_mul_right _ hk.1
    have h5 := hW.b
    omega
theorem log2_small {n k : Nat} (h : n < 2 ^ k) : n.log2 ≤ k := by
  by_cases z : n = 0
  · subst z; exact Nat.zero_le _
  · exact Nat.le_of_lt ((Nat.log2_lt z).mpr h)
theorem mulW_small {i j : Int} (h1 : i.natAbs < 2 ^ 400) (h2 : j.natAbs < 2 ^ 400) : CMulW i j := by
  have a := log2_small h1
  have b := log2_small h2
  unfold CMulW
  omega
def spAns (P : Program) (w : World) : L3.Spec := fun bag n ds Φ => ∃ (W : Wd) (nm : Str) (ks : List Int), ds = [wD P w W, .str nm, .tup (ks.map .int)] ∧ okW W ∧ small (2 ^ 200) ks ∧ Φ n (.int (ans W nm ks))
abbrev s_law_answer : Stmt := top 27
abbrev N_law_answer : List Str := ["world", "name", "key", "place", "number"]
theorem sc_law_answer : FnScope N_law_answer ["world", "name", "key"] (defScope s_law_answer) := ⟨rfl, rfl, rfl, by decide +kernel, rfl, by decide +kernel, by decide +kernel⟩

theorem ok_answer {f : Addr} {fd : FuncData} (F : Fun K "_law_answer" "_law_answer" s_law_answer f fd) (T : Txt mg) : FnOk P w K mg base CX0 1 f fd ["world", "name", "key"] (spD K (spAns P w)) := by
  refine fn_D F sc_law_answer (fun bag n ds Φ h => ?_) (fun cdv A outer s H Ex O bag n ds Φ hr h => ?_)
  · obtain ⟨W, nm, ks, e, _⟩ := h
    rw [e]; rfl
  · obtain ⟨W, nm, ks, e, hW, hk, kk⟩ := h
    subst e
    refine ⟨_, (pss_cons (ps_if (pt_cmpR (x_inN P w K (by exact hu65 hr)) (pe_tup (pa_cons (pv 1) (pa_cons (pv 2) pa_nil))) (pe_ix (x_ix K) (pv 0) pe_int (fun _ _ => rfl)) (by with_unfolding_all rfl)) (pss_one (ps_ret (pe_ix (x_ixN P w K (by exact hr.units)) (pe_ix (x_ix K) (pv 0) pe_int (fun _ _ => rfl)) (pe_tup (pa_cons (pv 1) (pa_cons (pv 2) pa_nil))) (fun _ _ => rfl)))) pss_nil)
  (pss_one (ps_ret (pe_op (x_add K) (pe_ix (x_ix K) (pv 0) pe_int (fun _ _ => rfl)) (pe_op op_mulW (pe_ix (x_ix K) (pv 0) pe_int (fun _ _ => rfl)) (pe_callB (x_sum K) (by rfl) T.b_sum (by decide +kernel) (pa_cons (pe_lc (own := [("place", 3), ("number", 4)]) (g := gTup K 2 (gCons (gName 3) (gCons (gName 4) gNil))) (tt := tYes) rfl sc_law_answer.nd (x_enumT K (by rfl) T.b_enumerate (pa_cons (pv 2) pa_nil)) (blkOk_by (own := [("place", 3), ("number", 4)]) (N := N_law_answer) (sc := defScope s_law_answer) (by decide +kernel)) (fun _ _ _ _ _ => (x_tgt K (pg_tup (by rfl) (pgs_cons (pg_name (i := 3) sc_law_answer.nd rfl (Or.inl rfl)) (pgs_cons (pg_name (i := 4) sc_law_answer.nd rfl (Or.inl rfl)) pgs_nil))))) (fun _ _ _ _ _ => pts_nil) (fun _ _ _ _ _ => (pe_op op_mulW (pe_op (x_add K) (pv 3) pe_int) (pv 4)))) pa_nil))))))), ?_⟩
    show WS _ _ [.val (wD P w W), .val (.str nm), .val (.tup (ks.map .int)), .un, .un] n _
    walk_at "ws1"
    walk_at "ws1"
    walk_at "go"
    refine ⟨Nat.le_of_ble_eq_true rfl, ?_⟩
    walk_at "go"
    refine r2_inN (key_w nm ks) ?_
    rw [look_w]
    refine ⟨_, rfl, ?_⟩
    have ea : ∀ v, wlook W.told nm ks = some v → ans W nm ks = v := fun v h => by unfold ans; rw [h]
    have eb : wlook W.told nm ks = none → ans W nm ks = W.b + W.f * (wterms 0 ks).sum := fun h => by unfold ans; rw [h]
    cases hl : wlook W.told nm ks with
    | some v =>
      refine itT rfl ?_
      walk_at "ws1"
      walk_at "go"
      refine ⟨Nat.le_of_ble_eq_true rfl, ?_⟩
      refine r2_ixN (f := .int v) (key_w nm ks) (by rw [look_w, hl]; rfl) ?_
      rw [ea v hl] at kk
      exact kk
    | none =>
      refine itF rfl ?_
      rw [eb hl] at kk
      walk_at "ws1"
      walk_at "ws1"
      walk_at "go"
      refine wf_we (wf_map mulT (fun _ => true) (wi_enumT ?_))
      walk_at "go"
      refine ⟨by rw [enumD_len, List.length_map]; have := hk.1; omega, fun d hd m => ?_, ?_⟩
      · obtain ⟨j, hj⟩ := List.getElem?_of_mem hd
        obtain ⟨e, he, rfl⟩ := enumD_get hj
        obtain ⟨k, hk1, rfl, hk2, _⟩ := map_at he
        have hjl : j < ks.length := (List.getElem?_eq_some_iff.mp hk1).1
        have := hk.1
        walk_at "go"
        refine ⟨rfl, rfl, fun _ => ?_⟩
        walk_at "go"
        have hkk := hk.2 k hk2
        refine r2_mulW (mulW_small (by omega) (by omega)) ?_
        exact ⟨rfl, rfl⟩
      rw [filt_all, enum_terms]
      refine wa_nil (rc_sum ?_)
      have hs : (wterms 0 ks).sum.natAbs ≤ ks.length * (3 * 2 ^ 200) := terms_le (2 ^ 200) ks 0 (by have := hk.1; omega) hk.2
      have h4 : ks.length * (3 * 2 ^ 200) ≤ 3 * (3 * 2 ^ 200) := Nat.mul_le_mul_right _ hk.1
      have hf := hW.f
      refine r2_mulW (mulW_small (by omega) (by have := Nat.le_trans hs h4; omega)) ?_
      walk_at "go"
      exact kk
/-! the true answers -/
def IsTrue (W : Wd) (es : List Toy.Ev) (V : Str → Int) : Prop := ∀ e ∈ es, V e.nm = ans W e.nm (e.needs.map V)
theorem goodEvs_snoc {es : List Toy.Ev} {e : Toy.Ev} (h : goodEvs (es ++ [e])) : goodEvs es ∧ goodEv (es.map Toy.Ev.nm) e := by
  obtain ⟨h1, h2⟩ := h
  rw [List.length_append] at h1
  have hl : ([e] : List Toy.Ev).length = 1 := rfl
  refine ⟨⟨by omega, fun i x hx => ?_⟩, ?_⟩
  · have hi : i < es.length := (List.getElem?_eq_some_iff.mp hx).1
    have := h2 i x (by rw [List.getElem?_append_left hi]; exact hx)
    rw [List.take_append_of_le_length (Nat.le_of_lt hi)] at this
    exact this
  · have := h2 es.length e (by rw [List.getElem?_append_right (Nat.le_refl _), Nat.sub_self]; rfl)
    rw [List.take_append_of_le_length (Nat.le_refl _), List.take_length] at this
    exact this
theorem goodEvs_mem {es : List Toy.Ev} (h : goodEvs es) {e : Toy.Ev} (he : e ∈ es) : ∃ i, es[i]? = some e ∧ goodEv ((es.take i).map Toy.Ev.nm) e := by
  obtain ⟨i, hi⟩ := List.getElem?_of_mem he
  exact ⟨i, hi, h.2 i e hi⟩
theorem goodEvs_needs {es : List Toy.Ev} (h : goodEvs es) {e : Toy.Ev} (he : e ∈ es) : ∀ x ∈ e.needs, x ∈ es.map Toy.Ev.nm := fun x hx => by
  obtain ⟨i, _, g⟩ := goodEvs_mem h he
  obtain ⟨y, hy, rfl⟩ := List.mem_map.mp (g.2.2.2.2.2.2.1 x hx)
  exact List.mem_map.mpr ⟨y, List.mem_of_mem_take hy, rfl⟩
def bnd (n : Nat) : Nat := 2 ^ (100 + 5 * n)
theorem bnd_succ (n : Nat) : bnd (n + 1) = 32 * bnd n := by
  unfold bnd
  rw [show 100 + 5 * (n + 1) = (100 + 5 * n) + 5 from by omega, Nat.pow_add]; omega
theorem bnd_ge (n : Nat) : 2 ^ 100 ≤ bnd n := Nat.pow_le_pow_right (by decide) (by omega)
theorem bnd_mono {n m : Nat} (h : n ≤ m) : bnd n ≤ bnd m := Nat.pow_le_pow_right (by decide) (by omega)
theorem bnd_12 : bnd 12 = 2 ^ 160 := rfl
theorem exists_V {W : Wd} (hW : okW W) (es : List Toy.Ev) : goodEvs es → ∃ V : Str → Int, IsTrue W es V ∧ ∀ x, (V x).natAbs ≤ bnd es.length := by
  refine snoc_ind' (P := fun es => goodEvs es → ∃ V : Str → Int, IsTrue W es V ∧ ∀ x, (V x).natAbs ≤ bnd es.length) (fun _ => ⟨fun _ => 0, (fun e he => nomatch he), fun _ => Nat.zero_le _⟩) (fun es e ih h => ?_) es
  obtain ⟨h1, h2⟩ := goodEvs_snoc h
  obtain ⟨V, hV, hb⟩ := ih h1
  refine ⟨fun x => if x = e.nm then ans W e.nm (e.needs.map V) else V x, fun e' he' => ?_, fun x => ?_⟩
  · have hne : ∀ e' : Toy.Ev, (∀ x ∈ e'.needs, x ∈ es.map Toy.Ev.nm) → e'.needs.map (fun x => if x = e.nm then ans W e.nm (e.needs.map V) else V x) = e'.needs.map V := fun e' hn => by
      refine List.map_congr_left fun x hx => ?_
      show (if x = e.nm then _ else V x) = V x
      rw [if_neg (fun q : x = e.nm => h2.2.1 (by rw [← q]; exact hn x hx))]
    rcases List.mem_append.mp he' with q | q
    · rw [hne e' (goodEvs_needs h1 q)]
      have : e'.nm ≠ e.nm := fun z => h2.2.1 (z ▸ List.mem_map.mpr ⟨e', q, rfl⟩)
      show (if e'.nm = e.nm then _ else V e'.nm) = _
      rw [if_neg this]
      exact hV e' q
    · rw [List.mem_singleton.mp q, hne e h2.2.2.2.2.2.2.1]
      show (if e.nm = e.nm then _ else _) = _
      rw [if_pos rfl]
  · show (if x = e.nm then ans W e.nm (e.needs.map V) else V x).natAbs ≤ bnd (es ++ [e]).length
    rw [List.length_append]
    show _ ≤ bnd (es.length + 1)
    rw [bnd_succ]
    by_cases q : x = e.nm
    · rw [if_pos q]
      refine ans_le hW (bnd_ge _) ⟨by rw [List.length_map]; exact h2.2.2.2.2.2.1, fun k hk => ?_⟩
      obtain ⟨y, _, rfl⟩ := List.mem_map.mp hk
      exact hb y
    · rw [if_neg q]
      have := hb x
      omega
theorem exists_V' {W : Wd} (hW : okW W) {es : List Toy.Ev} (h : goodEvs es) : ∃ V : Str → Int, IsTrue W es V ∧ ∀ x, (V x).natAbs ≤ 2 ^ 160 := by
  obtain ⟨V, h1, h2⟩ := exists_V hW es h
  exact ⟨V, h1, fun x => Nat.le_trans (h2 x) (by rw [← bnd_12]; exact bnd_mono h.1)⟩
def trD (V : Str → Int) (e : Toy.Ev) : D := .tup [.tup ((e.needs.map V).map .int), .int (V e.nm)]
def trK (V : Str → Int) (es : List Toy.Ev) : List (L2.Key × D) := es.map fun e => (Sum.inr e.nm, trD V e)
theorem look_tr (V : Str → Int) (x : Str) : ∀ es : List Toy.Ev, x ∈ es.map Toy.Ev.nm → ∃ e ∈ es, e.nm = x ∧ lookK (trK V es) (.inr x) = some (trD V e)
  | [], h => nomatch h
  | e :: es, h => by
    by_cases q : e.nm = x
    · refine ⟨e, List.mem_cons_self, q, ?_⟩
      unfold lookK trK
      rw [List.map_cons, List.find?_cons_of_pos (by simpa using q)]; rfl
    · obtain ⟨e', h1, h2, h3⟩ := look_tr V x es (by
        rcases List.mem_cons.mp h with z | z
        · exact absurd z.symm q
        · exact z)
      refine ⟨e', List.mem_cons_of_mem _ h1, h2, ?_⟩
      unfold lookK trK at *
      rw [List.map_cons, List.find?_cons_of_neg (by simpa using q)]; exact h3
theorem put_tr {V : Str → Int} {es : List Toy.Ev} {e : Toy.Ev} (h : e.nm ∉ es.map Toy.Ev.nm) : putKD (trK V es) (.inr e.nm) (trD V e) = trK V (es ++ [e]) := by
  unfold putKD
  rw [if_neg]
  · unfold trK; rw [List.map_append]; rfl
  · intro q
    obtain ⟨p, hp, hq⟩ := List.any_eq_true.mp q
    obtain ⟨e', he', rfl⟩ := List.mem_map.mp hp
    have : (Sum.inr e'.nm : L2.Key) = Sum.inr e.nm := of_decide_eq_true hq
    exact h (List.mem_map.mpr ⟨e', he', Sum.inr.inj this⟩)
def valN (V : Str → Int) : D → D
  | .str x => .int (V x)
  | _ => .non
def spTrue (P : Program) (w : World) : L3.Spec := fun bag n ds Φ => ∃ (es : List Toy.Ev) (W : Wd) (V : Str → Int), ds = [.lst (es.map evT), wD P w W] ∧ goodEvs es ∧ okW W ∧ IsTrue W es V ∧ (∀ x, (V x).natAbs ≤ 2 ^ 160) ∧ Φ n (.dct (trK V es))
theorem small_map {V : Str → Int} (h : ∀ x, (V x).natAbs ≤ 2 ^ 160) {l : List Str} (hl : l.length ≤ 3) : small (2 ^ 200) (l.map V) := ⟨by rw [List.length_map]; exact hl, fun k hk => by
  obtain ⟨x, _, rfl⟩ := List.mem_map.mp hk
  exact Nat.le_trans (h x) (Nat.pow_le_pow_right (by decide) (by decide))⟩
abbrev s_law_true : Stmt := top 28
abbrev N_law_true : List Str := ["events", "world", "found", "name", "end", "kind", "needs", "need", "key"]
theorem sc_law_true : FnScope N_law_true ["events", "world"] (defScope s_law_true) := ⟨rfl, rfl, rfl, by decide +kernel, rfl, by decide +kernel, by decide +kernel⟩

theorem ok_true {f : Addr} {fd : FuncData} (F : Fun K "_law_true" "_law_true" s_law_true f fd) (T : Txt mg) (D_law_answer : Dn P w K mg base "_law_answer" 1 ["world", "name", "key"] [] [] (spAns P w)) : FnOk P w K mg base CX0 2 f fd ["events", "world"] (spD K (spTrue P w)) := by
  refine fn_D F sc_law_true (fun bag n ds Φ h => ?_) (fun cdv A outer s H Ex O bag n ds Φ hr h => ?_)
  · obtain ⟨es, W, V, e, _⟩ := h
    rw [e]; rfl
  · obtain ⟨es, W, V, e, hg, hW, hV, hb, kk⟩ := h
    subst e
    refine ⟨_, (pss_cons (ps_set (i := 2) sc_law_true.nd rfl (Or.inr rfl) pe_dnewK)
  (pss_cons (ps_for PassesOwn.never rfl (x_seq K (pv 0)) (x_tgt K (pg_tup (by rfl) (pgs_cons (pg_name (i := 3) sc_law_true.nd rfl (Or.inl rfl)) (pgs_cons (pg_name (i := 4) sc_law_true.nd rfl (Or.inl rfl)) (pgs_cons (pg_name (i := 5) sc_law_true.nd rfl (Or.inl rfl)) (pgs_cons (pg_name (i := 6) sc_law_true.nd rfl (Or.inl rfl)) pgs_nil)))))) (pss_cons (ps_set (i := 8) sc_law_true.nd rfl (Or.inl rfl) (pe_callTy (x_tup K) (by rfl) T.b_tuple (by decide +kernel) (pa_cons (pe_lc (own := [("need", 7)]) (g := gName 7) (tt := tYes) rfl sc_law_true.nd (x_seq K (pv 6)) (blkOk_by (own := [("need", 7)]) (N := N_law_true) (sc := defScope s_law_true) (by decide +kernel)) (fun _ _ _ _ _ => (pg_name (i := 7) sc_law_true.nd rfl (Or.inl rfl))) (fun _ _ _ _ _ => pts_nil) (fun _ _ _ _ _ => (pe_ix (x_ix K) (pe_dget (by exact hu1 hr) (pv 2) (pv 7) (fun _ _ => rfl)) pe_int (fun _ _ => rfl)))) pa_nil)))
  (pss_one (ps_dput (by exact hu1 hr) (pv 2) (pv 3) (pe_tup (pa_cons (pv 8) (pa_cons (pe_call D_law_answer.G (hr.mono (by decide)) (by rfl) D_law_answer.m D_law_answer.k D_law_answer.b D_law_answer.v pass0 (pa_cons (pv 1) (pa_cons (pv 3) (pa_cons (pv 8) pa_nil)))) pa_nil))) rfl))))
  (pss_one (ps_ret (pv 2))))), ?_⟩
    show WS _ _ [.val (.lst (es.map evT)), .val (wD P w W), .un, .un, .un, .un, .un, .un, .un] n _
    walk_at "ws1"
    refine ws_knew (i := 2) (Nat.le_of_ble_eq_true rfl) ?_
    walk_at "ws1"
    refine ws_for ?_
    walk_at "go"
    refine ⟨fun i m ρ => m = n ∧ ∃ x3 x4 x5 x6 x7 x8, ρ = [.val (.lst (es.map evT)), .val (wD P w W), .dk (trK V (es.take i)), x3, x4, x5, x6, x7, x8], ⟨rfl, _, _, _, _, _, _, rfl⟩, ?_, ?_⟩
    · rintro i m ρ1 d hd ⟨rfl, x3, x4, x5, x6, x7, x8, rfl⟩
      obtain ⟨e, hee, rfl, hm, tk⟩ := map_at hd
      obtain ⟨g1, g2, g3, g4, g5, g6, g7, g8, g9, g10, g11⟩ := hg.2 i e hee
      walk_at "go"
      walk_at "ws1"
      walk_at "ws1"
      refine we_cb (wa_cons (wf_we (wf_map (valN V) (fun _ => true) ?_)))
      walk_at "go"
      refine ⟨by rw [List.length_map]; omega, fun d hd m => ?_, ?_⟩
      · obtain ⟨x, hx, rfl⟩ := List.mem_map.mp hd
        walk_at "go"
        refine ⟨rfl, rfl, fun _ => ?_⟩
        obtain ⟨e', he', en, el⟩ := look_tr V x (es.take i) (g7 x hx)
        refine we_op (we_kget (i := 2) rfl ?_)
        walk_at "go"
        refine ⟨_, el, ?_⟩
        walk_at "go"
        rw [← en]
        exact ⟨rfl, rfl⟩
      rw [filt_all, List.map_map]
      have e3 : e.needs.map (valN V ∘ D.str) = (e.needs.map V).map .int := by rw [List.map_map]; rfl
      rw [e3]
      refine wa_nil (rc_tup rfl ?_)
      refine ws_kput (i := 2) (kvs := trK V (es.take i)) rfl (by unfold trK; rw [List.length_map, List.length_take]; have := hg.1; omega) ?_
      walk_at "go"
      refine ⟨W, e.nm, e.needs.map V, rfl, hW, small_map hb g6, ?_⟩
      walk_at "go"
      refine ⟨Nat.le_of_ble_eq_true rfl, ?_⟩
      walk_at "go"
      refine ⟨rfl, .val (.str e.nm), .val (.int e.at_), .val (.str e.kind), .val (.tup (e.needs.map .str)), x7, .val (.tup ((e.needs.map V).map .int)), ?_⟩
      rw [← hV e hm, tk, ← put_tr g2]; rfl
    · rintro m ρ1 ⟨rfl, x3, x4, x5, x6, x7, x8, rfl⟩
      refine ws_freezeK 2 rfl ?_
      rw [List.length_map, List.take_length]
      walk_at "ws1"
      walk_at "go"
      exact kk
/-! a world by digits -/
def spMade (P : Program) (w : World) : L3.Spec := fun bag n ds Φ => ∃ (b q : Addr) (es : List Toy.Ev), bag = some (b, q) ∧ ds = [.adr b, .lst (es.map evT)] ∧ goodEvs es ∧ n + 30 < 2 ^ 60 ∧ ∀ W n', okW W → n' ≤ n + 30 → Φ n' (wD P w W)
theorem wput_len (t : Told) (nm : Str) (ks : List Int) (v : Int) : (wput t nm ks v).length ≤ t.length + 1 := by
  unfold wput
  split
  · rw [List.length_map]; omega
  · rw [List.length_append]; exact Nat.le_refl _
theorem wput_le {t : Told} {nm : Str} {ks : List Int} {v : Int} (h : ∀ x ∈ t, x.2.2.natAbs ≤ 4) (hv : v.natAbs ≤ 4) : ∀ x ∈ wput t nm ks v, x.2.2.natAbs ≤ 4 := by
  unfold wput
  split
  · intro x hx
    obtain ⟨y, hy, rfl⟩ := List.mem_map.mp hx
    by_cases q : y.1 = nm ∧ y.2.1 = ks
    · rw [if_pos q]; exact hv
    · rw [if_neg q]; exact h y hy
  · intro x hx
    rcases List.mem_append.mp hx with q | q
    · exact h x q
    · rw [List.mem_singleton.mp q]; exact hv
theorem four {r : Int} (h0 : 0 ≤ r) (h4 : r < 4) : r = 0 ∨ r = 1 ∨ r = 2 ∨ r = 3 := by omega
abbrev s_law_made_world : Stmt := top 26
abbrev N_law_made_world : List Str := ["bag", "events", "base", "world", "event", "key"]
theorem sc_law_made_world : FnScope N_law_made_world ["bag", "events"] (defScope s_law_made_world) := ⟨rfl, rfl, rfl, by decide +kernel, rfl, by decide +kernel, by decide +kernel⟩

theorem ok_made {f : Addr} {fd : FuncData} (F : Fun K "_law_made_world" "_law_made_world" s_law_made_world f fd) (T : Txt mg) (D_law_draw : Dn P w K mg base "_law_draw" 1 ["bag", "limit"] [] [] spDraw) (D_law_true : Dn P w K mg base "_law_true" 2 ["events", "world"] [] [] (spTrue P w)) : FnOk P w K mg base CX0 3 f fd ["bag", "events"] (spD K (spMade P w)) := by
  refine fn_D F sc_law_made_world (fun bag n ds Φ h => ?_) (fun cdv A outer s H Ex O bag n ds Φ hr h => ?_)
  · obtain ⟨b, q, es, _, e, _⟩ := h
    rw [e]; rfl
  · obtain ⟨b, q, es, eb, e, hg, hn, kk⟩ := h
    subst eb; subst e
    refine ⟨_, (pss_cons (ps_set (i := 2) sc_law_made_world.nd rfl (Or.inl rfl) (pe_ix (x_ix K) (pe_lst (pa_cons pe_int (pa_cons pe_int (pa_cons pe_int (pa_cons (pe_op op_pow pe_int pe_int) pa_nil))))) (pe_call D_law_draw.G (hr.mono (by decide)) (by rfl) D_law_draw.m D_law_draw.k D_law_draw.b D_law_draw.v pass0 (pa_cons (pv 0) (pa_cons pe_int pa_nil))) (fun _ _ => rfl)))
  (pss_cons (ps_set (i := 3) sc_law_made_world.nd rfl (Or.inl rfl) (pe_tup (pa_cons (pe_dnewN P w) (pa_cons (pv 2) (pa_cons (pe_ix (x_ix K) (pe_lst (pa_cons pe_int (pa_cons pe_int (pa_cons pe_int (pa_cons (pe_op op_sub pe_int pe_int) pa_nil))))) (pe_call D_law_draw.G (hr.mono (by decide)) (by rfl) D_law_draw.m D_law_draw.k D_law_draw.b D_law_draw.v pass0 (pa_cons (pv 0) (pa_cons pe_int pa_nil))) (fun _ _ => rfl)) pa_nil)))))
  (pss_cons (ps_for PassesOwn.never rfl (x_seq K (pv 1)) (pg_name (i := 4) sc_law_made_world.nd rfl (Or.inl rfl)) (pss_one (ps_if (pt_cmpR (x_eq K (by exact hr.units)) (pe_call D_law_draw.G (hr.mono (by decide)) (by rfl) D_law_draw.m D_law_draw.k D_law_draw.b D_law_draw.v pass0 (pa_cons (pv 0) (pa_cons pe_int pa_nil))) pe_int (nomark _)) (pss_cons (ps_set (i := 5) sc_law_made_world.nd rfl (Or.inl rfl) (pe_ix (x_ix K) (pe_dget (by exact hu1 hr) (pe_call D_law_true.G (hr.mono (by decide)) (by rfl) D_law_true.m D_law_true.k D_law_true.b D_law_true.v pass0 (pa_cons (pv 1) (pa_cons (pv 3) pa_nil))) (pe_ix (x_ix K) (pv 4) pe_int (fun _ _ => rfl)) (fun _ _ => rfl)) pe_int (fun _ _ => rfl)))
  (pss_one (ps_asg (pe_call D_law_draw.G (hr.mono (by decide)) (by rfl) D_law_draw.m D_law_draw.k D_law_draw.b D_law_draw.v pass0 (pa_cons (pv 0) (pa_cons pe_int pa_nil))) (pg_sub (pe_ix (x_ix K) (pv 3) pe_int (fun _ _ => rfl)) (pe_tup (pa_cons (pe_ix (x_ix K) (pv 4) pe_int (fun _ _ => rfl)) (pa_cons (pv 5) pa_nil))) (x_setN P w K (by exact hr.units)) (fun _ => rfl))))) pss_nil)))
  (pss_one (ps_ret (pv 3)))))), ?_⟩
    show WS _ _ [.val (.adr b), .val (.lst (es.map evT)), .un, .un, .un, .un] n _
    refine ws_cut (fun n1 ρ1 => n1 = n + 1 ∧ ∃ B : Int, B.natAbs ≤ 2 ^ 100 ∧ ρ1 = [.val (.adr b), .val (.lst (es.map evT)), .val (.int B), .un, .un, .un]) ?_ ?_
    · walk_at "ws1"
      walk_at "go"
      refine r2_pow ⟨by decide, by decide, by decide⟩ ?_
      walk_at "go"
      refine ⟨Nat.le_of_ble_eq_true rfl, ?_⟩
      walk_at "go"
      refine ⟨b, q, 4, rfl, rfl, by decide, by decide, by omega, fun r h0 h4 => ?_⟩
      obtain rfl | rfl | rfl | rfl := four h0 h4
      · exact r2_ix (f := .int 0) rfl ⟨rfl, 0, by decide, rfl⟩
      · exact r2_ix (f := .int 1) rfl ⟨rfl, 1, by decide, rfl⟩
      · exact r2_ix (f := .int 7) rfl ⟨rfl, 7, by decide, rfl⟩
      · exact r2_ix (f := .int (10 ^ 30)) rfl ⟨rfl, 10 ^ 30, by decide, rfl⟩
    rintro n1 ρ1 ⟨rfl, B, hB, rfl⟩
    refine ws_cut (fun n1 ρ1 => n1 = n + 2 ∧ ∃ (l : Addr) (F : Int), F.natAbs ≤ 2 ∧ ρ1 = [.val (.adr b), .val (.lst (es.map evT)), .val (.int B), .tw l [] [.int B, .int F], .un, .un]) ?_ ?_
    · refine ws_wnew (i := 3) (Nat.le_of_ble_eq_true rfl) ?_
      walk_at "go"
      refine ⟨Nat.le_of_ble_eq_true rfl, ?_⟩
      walk_at "go"
      refine ⟨b, q, 4, rfl, rfl, by decide, by decide, by omega, fun r h0 h4 => ?_⟩
      obtain rfl | rfl | rfl | rfl := four h0 h4
      · exact r2_ix (f := .int 0) rfl (wa_nil ⟨Nat.le_of_ble_eq_true rfl, fun l => ⟨rfl, l, 0, by decide, rfl⟩⟩)
      · exact r2_ix (f := .int 1) rfl (wa_nil ⟨Nat.le_of_ble_eq_true rfl, fun l => ⟨rfl, l, 1, by decide, rfl⟩⟩)
      · exact r2_ix (f := .int 2) rfl (wa_nil ⟨Nat.le_of_ble_eq_true rfl, fun l => ⟨rfl, l, 2, by decide, rfl⟩⟩)
      · exact r2_ix (f := .int (-1)) rfl (wa_nil ⟨Nat.le_of_ble_eq_true rfl, fun l => ⟨rfl, l, -1, by decide, rfl⟩⟩)
    rintro n1 ρ1 ⟨rfl, l, F, hF, rfl⟩
    have h12 := hg.1
    walk_at "ws1"
    refine ws_for ?_
    walk_at "go"
    refine ⟨fun i m ρ => m ≤ n + 2 + 2 * i ∧ ∃ (t : Told) (x4 x5 : SD), t.length ≤ i ∧ (∀ x ∈ t, x.2.2.natAbs ≤ 4) ∧ ρ = [.val (.adr b), .val (.lst (es.map evT)), .val (.int B), .tw l (wkv t) [.int B, .int F], x4, x5], ⟨Nat.le_refl _, [], .un, .un, Nat.le_refl _, (fun x hx => nomatch hx), rfl⟩, ?_, ?_⟩
    · rintro i m ρ1 d hd ⟨hm, t, x4, x5, ht, hv, rfl⟩
      obtain ⟨e, hee, rfl, hmem, tk⟩ := map_at hd
      have hi : i < es.length := (List.getElem?_eq_some_iff.mp hee).1
      walk_at "go"
      refine ws_if ?_
      walk_at "go"
      refine ⟨b, q, 2, rfl, rfl, by decide, by decide, by omega, fun r h0 h4 => ?_⟩
      walk_at "go"
      refine dec2 (fun h1 => ?_) (fun h1 => ?_)
      · have hW : okW ⟨t, B, F⟩ := ⟨by show t.length ≤ 100; omega, hv, hB, hF⟩
        obtain ⟨V, hV, hb⟩ := exists_V' hW hg
        walk_at "ws1"
        refine ws_set (we_lookW 3 rfl ?_)
        refine we_op (we_dget1 ?_)
        walk_at "go"
        refine ⟨es, ⟨t, B, F⟩, V, rfl, hg, hW, hV, hb, ?_⟩
        refine ⟨_, rfl, ?_⟩
        walk_at "go"
        obtain ⟨e', he', en, el⟩ := look_tr V e.nm es (List.mem_map.mpr ⟨e, hmem, rfl⟩)
        refine ⟨_, el, ?_⟩
        walk_at "go"
        refine ⟨plain_ints _, ?_⟩
        refine ws_wput (i := 3) (l := l) (kvs := wkv t) (ds := [.int B, .int F]) rfl (by unfold wkv; rw [List.length_map]; omega) ?_
        walk_at "go"
        refine ⟨b, q, 4, rfl, rfl, by decide, by decide, by omega, fun r h0 h4 => ?_⟩
        walk_at "go"
        refine ⟨Nat.le_of_ble_eq_true rfl, key_w e.nm (e'.needs.map V), by show m + 1 + 1 ≤ _; omega, wput t e.nm (e'.needs.map V) r, .val (evT e), .val (.tup ((e'.needs.map V).map .int)), by have := wput_len t e.nm (e'.needs.map V) r; omega, wput_le hv (by omega), ?_⟩
        rw [← put_w]; rfl
      · walk_at "ws1"
        exact ⟨by show m + 1 ≤ _; omega, t, .val (evT e), x5, by omega, hv, rfl⟩
    · rintro m ρ1 ⟨hm, t, x4, x5, ht, hv, rfl⟩
      rw [List.length_map] at hm ht
      refine ws_freezeW 3 rfl ?_
      walk_at "ws1"
      walk_at "go"
      exact kk ⟨t, B, F⟩ m ⟨by show t.length ≤ 100; omega, hv, hB, hF⟩ (by omega)
end
end Toy
namespace L3
open PySem L2
section
variable {c : Ctx} {ρ : List SD} {n : Nat} {te : TE} {Φ : Nat → List D → Prop}
/-- list(x), one's own -/
theorem wf_list1 (h : WE c te ρ n fun n1 d => ∃ ds, seqD d = some ds ∧ Φ n1 ds) : WF c (tCB (rListD c.K) (tCons te tNil)) ρ n Φ := fun P L σ H Q E q => by
  refine h P L σ H _ E fun x d n1 H1 s1 j1 r1 ⟨ds, e, k⟩ => ?_
  have E1 := E.step s1 j1
  cases r1 with
  | @lst a ys _ hs ha =>
    cases e
    exact ⟨a, ys, rfl, .inl (.inl (same_rd same_hid hs)), fun l hl => q l ys _ n1 _ (s1.trans (E1.newT hl).1) (E.noneB s1 j1 hl) upd_same (by rw [hid_new_in hl]; exact ha) (E1.newT hl).2.1 k⟩
  | @tup a ys _ hs ha =>
    cases e
    exact ⟨a, ys, rfl, .inr (same_t same_hid hs), fun l hl => q l ys _ n1 _ (s1.trans (E1.newT hl).1) (E.noneB s1 j1 hl) upd_same (by rw [hid_new_in hl]; exact ha) (E1.newT hl).2.1 k⟩
  | _ => cases e
end
end L3
namespace Toy
open PySem L2 L3
local macro_rules | `(tactic| walk_at "we1") => `(tactic| first
  | ((with_reducible refine' we_var ?hv ?_); (case hv => rfl))
  | (with_reducible refine we_int ?_)
  | (with_reducible refine we_str ?_)
  | (with_reducible refine we_bl ?_)
  | (with_reducible refine we_non ?_)
  | ((with_reducible refine' we_dix ?hv ?_); (case hv => rfl))
  | (with_reducible refine we_op ?_)
  | ((with_reducible refine' we_dget ?hv ?_); (case hv => rfl))
  | (with_reducible refine we_count ?_)
  | (with_reducible refine we_cb ?_)
  | (with_reducible refine we_call0 ?_)
  | (with_reducible refine we_tup ?_)
  | (with_reducible refine we_lst ?_)
  | (with_reducible refine we_if ?_)
  | (with_reducible refine we_not ?_)
  | (with_reducible refine we_and ?_)
  | (with_reducible refine we_or ?_)
  | (with_reducible refine we_isN ?_)
  | (with_reducible refine we_notN ?_)
  | (with_reducible refine we_sl ?_)
  | (with_reducible refine wa_cons ?_)
  | (with_reducible refine wa_nil ?_)
  | (with_reducible refine wt_test ?_)
  | (with_reducible refine wt_B ?_)
  | (with_reducible refine wt_and ?_)
  | (with_reducible refine wt_or ?_)
  | (with_reducible refine wt_not ?_)
  | (with_reducible refine wt_yes ?_)
  | (with_reducible refine wo_none ?_)
  | (with_reducible refine wo_some ?_)
  | ((with_reducible refine' r2_ix ?hx ?_); (case hx => rfl))
  | (with_reducible refine r2_isN ?_)
  | (with_reducible refine r2_notN ?_)
  | (with_reducible refine r2_lt ?_)
  | (with_reducible refine r2_le ?_)
  | (with_reducible refine r2_gt ?_)
  | (with_reducible refine r2_ge ?_)
  | (with_reducible refine r2_sub ?_)
  | (with_reducible refine r2_addI ?_)
  | (with_reducible refine r2_eqI ?_)
  | (with_reducible refine r2_neI ?_)
  | (with_reducible refine rc_int ?_)
  | (with_reducible refine rc_abs ?_)
  | ((with_reducible refine' rc_len ?hl ?_); (case hl => rfl))
  | (with_reducible refine wi_seq ?_)
  | (with_reducible refine wi_rng1 ?_)
  | (with_reducible refine wi_rng2 ?_)
  | (with_reducible refine wi_enum ?_)
  | (refine ⟨_, rfl, ?_⟩))
local macro_rules | `(tactic| walk_at "ws1") => `(tactic| first
  | (with_reducible refine ws_seq ?_)
  | (with_reducible refine ws_set ?_)
  | (with_reducible refine ws_ret ?_)
  | (with_reducible refine ws_if ?_)
  | (with_reducible refine ws_next ?_)
  | (with_reducible refine ws_asg ?_))
local macro_rules | `(tactic| walk_at "wg1") => `(tactic| first
  | (with_reducible refine wg_name (rw_name (by decide)) ?_)
  | (with_reducible refine wg_name (fun _ _ => trivial) ?_)
  | ((with_reducible refine' wg_tup ?hl ?_); (case hl => rfl))
  | (with_reducible refine wgs_cons rw_trans ?_)
  | (with_reducible refine wgs_nil rw_refl ?_)
  | (with_reducible refine wgs_cons (fun _ _ _ _ _ => trivial) ?_)
  | (with_reducible refine wgs_nil (fun _ => trivial) ?_))
local macro_rules | `(tactic| walk_at "go") => `(tactic| repeat' (first | walk_at "we1" | walk_at "wg1"))
section
variable {P : Program} {w : World} {K : PySem.W.Frag} {mg : Str → Option Value} {base : Heap}
/-! orders by digits -/
def NM : List Str := ["m", "b2", "z", "a", "k0", "c", "zz", "d"]
def nm (i : Nat) : Str := NM.getD i ""
theorem nm_at (k : Nat) (h : k < 8) : ixD (.lst (NM.map .str)) (k : Int) = some (.str (nm k)) := by
  refine ixD_nat ?_
  have : k < NM.length := h
  rw [List.getElem?_map, List.getElem?_eq_getElem this]
  show some (D.str NM[k]) = some (D.str (NM.getD k ""))
  rw [List.getD_eq_getElem?_getD, List.getElem?_eq_getElem this]; rfl
theorem nm_in : ∀ p : Nat, p ≤ 8 → ∀ k : Nat, k < p → nm k ∈ NM.take p := by
  have h : ∀ p : Fin 9, ∀ k : Fin 8, k.val < p.val → nm k.val ∈ NM.take p.val := by decide +kernel
  exact fun p hp k hk => h ⟨p, by omega⟩ ⟨k, by omega⟩ hk
theorem nm_new : ∀ p : Nat, p < 8 → nm p ∉ NM.take p := by
  have h : ∀ p : Fin 8, nm p.val ∉ NM.take p.val := by decide +kernel
  exact fun p hp => h ⟨p, hp⟩
theorem nm_ok : ∀ x ∈ NM, isName x = true ∧ fit (.str x) = true := by
  have h : (NM.all fun x => isName x && fit (.str x)) = true := by decide +kernel
  intro x hx
  have := List.all_eq_true.mp h x hx
  rwa [Bool.and_eq_true] at this
theorem nm_mem (p : Nat) (h : p < 8) : nm p ∈ NM := List.mem_of_mem_take (nm_in (p + 1) (by omega) p (by omega))
theorem NM_nodup : NM.Nodup := by decide +kernel
/-- the events of an order by digits -/
structure EvO (ends : Int) (most : Nat) (i : Nat) (e : Toy.Ev) : Prop where
  nm : e.nm = Toy.nm i
  a1 : 1 ≤ e.at_
  a2 : e.at_ ≤ ends
  kd : e.kind = "query" ∨ e.kind = "action"
  nl : e.needs.length ≤ most
  ns : ∀ x ∈ e.needs, x ∈ NM.take i
  nd : e.needs.Nodup
def OrdO (ends : Int) (most : Nat) (es : List Toy.Ev) : Prop := es.length ≤ 8 ∧ ∀ i e, es[i]? = some e → EvO ends most i e
theorem OrdO.names {ends : Int} {most : Nat} {es : List Toy.Ev} (h : OrdO ends most es) : es.map Toy.Ev.nm = NM.take es.length := by
  refine List.ext_getElem? fun i => ?_
  by_cases hi : i < es.length
  · rw [List.getElem?_map, List.getElem?_eq_getElem hi]
    have := (h.2 i es[i] (List.getElem?_eq_getElem hi)).nm
    rw [List.getElem?_take, if_pos hi]
    have h8 : i < NM.length := Nat.lt_of_lt_of_le hi h.1
    rw [List.getElem?_eq_getElem h8]
    show some es[i].nm = _
    rw [this]
    show some (NM.getD i "") = _
    rw [List.getD_eq_getElem?_getD, List.getElem?_eq_getElem h8]; rfl
  · rw [List.getElem?_eq_none (by rw [List.length_map]; omega), List.getElem?_eq_none (by rw [List.length_take]; omega)]
theorem OrdO.take {ends : Int} {most : Nat} {es : List Toy.Ev} (h : OrdO ends most es) (k : Nat) : OrdO ends most (es.take k) := by
  refine ⟨by rw [List.length_take]; have := h.1; omega, fun i e hi => ?_⟩
  rw [List.getElem?_take] at hi
  by_cases q : i < k
  · rw [if_pos q] at hi; exact h.2 i e hi
  · rw [if_neg q] at hi; cases hi
theorem OrdO.snoc {ends : Int} {most : Nat} {es : List Toy.Ev} {e : Toy.Ev} (h : OrdO ends most es) (h8 : es.length < 8) (he : EvO ends most es.length e) : OrdO ends most (es ++ [e]) := by
  refine ⟨by rw [List.length_append]; exact h8, fun i x hx => ?_⟩
  by_cases q : i < es.length
  · rw [List.getElem?_append_left q] at hx; exact h.2 i x hx
  · rw [List.getElem?_append_right (by omega)] at hx
    have e0 : i - es.length = 0 := by
      cases z : i - es.length with
      | zero => rfl
      | succ k => rw [z] at hx; cases hx
    rw [e0] at hx
    have : i = es.length := by omega
    subst this
    cases hx
    exact he
theorem OrdO.good {ends : Int} {es : List Toy.Ev} (h5 : ends ≤ 5) (h : OrdO ends 3 es) : goodEvs es := by
  refine ⟨by have := h.1; omega, fun i e hi => ?_⟩
  have H := h.2 i e hi
  have hlt : i < es.length := (List.getElem?_eq_some_iff.mp hi).1
  have h8 : i < 8 := by have := h.1; omega
  have en : (es.take i).map Toy.Ev.nm = NM.take i := by
    have := (h.take i).names
    rw [this, List.length_take, Nat.min_eq_left (by omega)]
  rw [en]
  obtain ⟨k1, k2⟩ := nm_ok _ (nm_mem i h8)
  have fx : ∀ x ∈ e.needs, fit (.str x) = true := fun x hx => (nm_ok x (List.mem_of_mem_take (H.ns x hx))).2
  refine ⟨by rw [H.nm]; exact k1, by rw [H.nm]; exact nm_new i h8, H.a1, Int.le_trans H.a2 h5, H.kd, H.nl, H.ns, H.nd, by rw [H.nm]; exact k2, ?_, fx⟩
  rcases H.kd with q | q <;> rw [q] <;> decide +kernel
theorem two {r : Int} (h0 : 0 ≤ r) (h4 : r < 2) : r = 0 ∨ r = 1 := by omega
def spOrd : L3.Spec := fun bag n ds Φ => ∃ (b q : Addr) (ends : Int) (least most : Nat), bag = some (b, q) ∧ ds = [.adr b, .int ends, .int least, .int most] ∧ 1 ≤ ends ∧ ends ≤ 5 ∧ 1 ≤ least ∧ least ≤ most ∧ most ≤ 8 ∧ n + 100 < 2 ^ 60 ∧ ∀ es n', OrdO ends 2 es → least ≤ es.length → es.length ≤ most → n' ≤ n + 100 → Φ n' (.lst (es.map evT))
abbrev s_law_order : Stmt := top 25
abbrev N_law_order : List Str := ["bag", "ends", "least", "most", "names", "events", "place", "needs", "other", "kind"]
theorem sc_law_order : FnScope N_law_order ["bag", "ends", "least", "most"] (defScope s_law_order) := ⟨rfl, rfl, rfl, by decide +kernel, rfl, by decide +kernel, by decide +kernel⟩

theorem ok_lorder {f : Addr} {fd : FuncData} (F : Fun K "_law_order" "_law_order" s_law_order f fd) (T : Txt mg) (D_law_draw : Dn P w K mg base "_law_draw" 1 ["bag", "limit"] [] [] spDraw) : FnOk P w K mg base CX0 2 f fd ["bag", "ends", "least", "most"] (spD K spOrd) := by
  refine fn_D F sc_law_order (fun bag n ds Φ h => ?_) (fun cdv A outer s H Ex O bag n ds Φ hr h => ?_)
  · obtain ⟨b, q, ends, least, most, _, e, _⟩ := h
    rw [e]; rfl
  · obtain ⟨b, q, ends, least, most, eb, e, he1, he5, hl1, hlm, hm8, hn, kk⟩ := h
    subst eb; subst e
    refine ⟨_, (pss_cons (ps_set (i := 4) sc_law_order.nd rfl (Or.inl rfl) (pe_lst (pa_cons pe_str (pa_cons pe_str (pa_cons pe_str (pa_cons pe_str (pa_cons pe_str (pa_cons pe_str (pa_cons pe_str (pa_cons pe_str pa_nil))))))))))
  (pss_cons (ps_set (i := 5) sc_law_order.nd rfl (Or.inl rfl) (pe_lst pa_nil))
  (pss_cons (ps_for PassesOwn.never rfl (pi_range1 (by rfl) T.b_range (pa_cons (pe_op (x_add K) (pv 2) (pe_call D_law_draw.G (hr.mono (by decide)) (by rfl) D_law_draw.m D_law_draw.k D_law_draw.b D_law_draw.v pass0 (pa_cons (pv 0) (pa_cons (pe_op (x_add K) (pe_op op_sub (pv 3) (pv 2)) pe_int) pa_nil)))) pa_nil)) (pg_name (i := 6) sc_law_order.nd rfl (Or.inl rfl)) (pss_cons (ps_set (i := 7) sc_law_order.nd rfl (Or.inl rfl) (pe_lst pa_nil))
  (pss_cons (ps_if (PW.pt (pw_and (pt_cmpR op_gt (pv 6) pe_int (nomark _)) (pw_and1 (pt_cmpR op_gt (pe_call D_law_draw.G (hr.mono (by decide)) (by rfl) D_law_draw.m D_law_draw.k D_law_draw.b D_law_draw.v pass0 (pa_cons (pv 0) (pa_cons pe_int pa_nil))) pe_int (nomark _))))) (pss_one (ps_expr (pe_bm PySem.F.plainAttrs_list PySem.F.slot_list_append PySem.F.type_list_append mt_append (pv 7) (pa_cons (pe_ix (x_ix K) (pv 4) (pe_op op_sub (pe_op op_sub (pv 6) pe_int) (pe_ifExp (pt_cmpR (x_eq K (by exact hr.units)) (pe_call D_law_draw.G (hr.mono (by decide)) (by rfl) D_law_draw.m D_law_draw.k D_law_draw.b D_law_draw.v pass0 (pa_cons (pv 0) (pa_cons pe_int pa_nil))) pe_int (nomark _)) (pe_call D_law_draw.G (hr.mono (by decide)) (by rfl) D_law_draw.m D_law_draw.k D_law_draw.b D_law_draw.v pass0 (pa_cons (pv 0) (pa_cons (pv 6) pa_nil))) pe_int)) (fun _ _ => rfl)) pa_nil)))) pss_nil)
  (pss_cons (ps_if (PW.pt (pw_and (pt_cmpR op_gt (pv 6) pe_int (nomark _)) (pw_and1 (pt_cmpR (x_eq K (by exact hr.units)) (pe_call D_law_draw.G (hr.mono (by decide)) (by rfl) D_law_draw.m D_law_draw.k D_law_draw.b D_law_draw.v pass0 (pa_cons (pv 0) (pa_cons pe_int pa_nil))) pe_int (nomark _))))) (pss_cons (ps_set (i := 8) sc_law_order.nd rfl (Or.inl rfl) (pe_ix (x_ix K) (pv 4) (pe_call D_law_draw.G (hr.mono (by decide)) (by rfl) D_law_draw.m D_law_draw.k D_law_draw.b D_law_draw.v pass0 (pa_cons (pv 0) (pa_cons (pv 6) pa_nil))) (fun _ _ => rfl)))
  (pss_one (ps_if (pt_cmpR (x_notIn K (by exact hu65 hr)) (pv 8) (pv 7) (by with_unfolding_all rfl)) (pss_one (ps_expr (pe_bm PySem.F.plainAttrs_list PySem.F.slot_list_append PySem.F.type_list_append mt_append (pv 7) (pa_cons (pv 8) pa_nil)))) pss_nil))) pss_nil)
  (pss_cons (ps_set (i := 9) sc_law_order.nd rfl (Or.inl rfl) (pe_ix (x_ix K) (pe_lst (pa_cons pe_str (pa_cons pe_str pa_nil))) (pe_call D_law_draw.G (hr.mono (by decide)) (by rfl) D_law_draw.m D_law_draw.k D_law_draw.b D_law_draw.v pass0 (pa_cons (pv 0) (pa_cons pe_int pa_nil))) (fun _ _ => rfl)))
  (pss_one (ps_expr (pe_bm PySem.F.plainAttrs_list PySem.F.slot_list_append PySem.F.type_list_append mt_append (pv 5) (pa_cons (pe_tup (pa_cons (pe_ix (x_ix K) (pv 4) (pv 6) (fun _ _ => rfl)) (pa_cons (pe_op (x_add K) pe_int (pe_call D_law_draw.G (hr.mono (by decide)) (by rfl) D_law_draw.m D_law_draw.k D_law_draw.b D_law_draw.v pass0 (pa_cons (pv 0) (pa_cons (pv 1) pa_nil)))) (pa_cons (pv 9) (pa_cons (pe_callTy (x_tup K) (by rfl) T.b_tuple (by decide +kernel) (pa_cons (pv 7) pa_nil)) pa_nil))))) pa_nil)))))))))
  (pss_one (ps_ret (pv 5)))))), ?_⟩
    show WS _ _ [.val (.adr b), .val (.int ends), .val (.int least), .val (.int most), .un, .un, .un, .un, .un, .un] n _
    walk_at "ws1"
    walk_at "ws1"
    walk_at "go"
    refine ⟨Nat.le_of_ble_eq_true rfl, ?_⟩
    show WS _ _ [.val (.adr b), .val (.int ends), .val (.int least), .val (.int most), .val (.lst (NM.map .str)), .un, .un, .un, .un, .un] n _
    walk_at "ws1"
    refine ws_own (i := 5) (Nat.le_of_ble_eq_true rfl) (wf_lst (wa_nil ⟨Nat.zero_le _, ?_⟩))
    walk_at "ws1"
    refine ws_for ?_
    walk_at "go"
    refine ⟨b, q, _, rfl, rfl, by omega, by omega, by omega, fun r h0 h4 => ?_⟩
    walk_at "go"
    obtain ⟨c, hc⟩ : ∃ c : Nat, (least : Int) + r = (c : Int) := ⟨((least : Int) + r).toNat, by omega⟩
    rw [hc]
    refine ⟨by omega, by omega, ?_⟩
    have hcn : ((c : Nat) : Int).toNat = c := by omega
    rw [hcn]
    refine ⟨fun i m ρ => m ≤ n + 1 + 8 * i ∧ ∃ (es : List Toy.Ev) (x6 x7 x8 x9 : SD), es.length = i ∧ OrdO ends 2 es ∧ ρ = [.val (.adr b), .val (.int ends), .val (.int least), .val (.int most), .val (.lst (NM.map .str)), .own (es.map evT), x6, x7, x8, x9], ⟨Nat.le_refl _, [], .un, .un, .un, .un, rfl, ⟨Nat.zero_le _, fun i e h => by simp at h⟩, rfl⟩, ?_, ?_⟩
    · rintro i m ρ1 d hd ⟨hm, es, x6, x7, x8, x9, hes, ho, rfl⟩
      obtain ⟨hi, rfl⟩ := rangeD_get hd
      have hi8 : i < 8 := by omega
      have e0 : (0 : Int) + (i : Int) = (i : Int) := by omega
      rw [e0]
      walk_at "wg1"
      walk_at "ws1"
      refine ws_own (i := 7) (Nat.le_of_ble_eq_true rfl) (wf_lst (wa_nil ⟨Nat.zero_le _, ?_⟩))
      show WS _ _ [.val (.adr b), .val (.int ends), .val (.int least), .val (.int most), .val (.lst (NM.map .str)), .own (es.map evT), .val (.int (i : Int)), .own [], x8, x9] m _
      refine ws_cut (fun n1 ρ1 => n1 ≤ m + 3 ∧ ∃ ns : List Str, ns.length ≤ 1 ∧ (∀ x ∈ ns, x ∈ NM.take i) ∧ ns.Nodup ∧ ρ1 = [.val (.adr b), .val (.int ends), .val (.int least), .val (.int most), .val (.lst (NM.map .str)), .own (es.map evT), .val (.int (i : Int)), .own (ns.map .str), x8, x9]) ?_ ?_
      · have none0 : ∀ n1, n1 ≤ m + 3 → (n1 ≤ m + 3 ∧ ∃ ns : List Str, ns.length ≤ 1 ∧ (∀ x ∈ ns, x ∈ NM.take i) ∧ ns.Nodup ∧ [SD.val (.adr b), .val (.int ends), .val (.int least), .val (.int most), .val (.lst (NM.map .str)), .own (es.map evT), .val (.int (i : Int)), .own [], x8, x9] = [.val (.adr b), .val (.int ends), .val (.int least), .val (.int most), .val (.lst (NM.map .str)), .own (es.map evT), .val (.int (i : Int)), .own (ns.map .str), x8, x9]) := fun n1 h => ⟨h, [], Nat.zero_le _, (fun x hx => nomatch hx), List.nodup_nil, rfl⟩
        refine ws_if ?_
        walk_at "go"
        refine dec2 (fun h1 => ?_) (fun h1 => ?_)
        · walk_at "go"
          refine ⟨b, q, 6, rfl, rfl, by decide, by decide, by omega, fun r h0 h4 => ?_⟩
          walk_at "go"
          refine dec2 (fun h2 => ?_) (fun h2 => ?_)
          · have app : ∀ (n1 : Nat) (j : Int), n1 ≤ m + 3 → 0 ≤ j → j < i → R2D K (rIx K) (.lst (NM.map .str)) (.int (((i : Int) - 1) - j)) (fun d => (0 < sizeLine) ∧ (n1 ≤ m + 3 ∧ ∃ ns : List Str, ns.length ≤ 1 ∧ (∀ x ∈ ns, x ∈ NM.take i) ∧ ns.Nodup ∧ [SD.val (.adr b), .val (.int ends), .val (.int least), .val (.int most), .val (.lst (NM.map .str)), .own (es.map evT), .val (.int (i : Int)), .own ([] ++ [d]), x8, x9] = [.val (.adr b), .val (.int ends), .val (.int least), .val (.int most), .val (.lst (NM.map .str)), .own (es.map evT), .val (.int (i : Int)), .own (ns.map .str), x8, x9])) := fun n1 j hn1 hj0 hj1 => by
              obtain ⟨k, hk⟩ : ∃ k : Nat, ((i : Int) - 1) - j = (k : Int) := ⟨(((i : Int) - 1) - j).toNat, by omega⟩
              rw [hk]
              exact r2_ix (nm_at k (by omega)) ⟨Nat.lt_of_lt_of_le (by decide) (Nat.le_of_ble_eq_true (rfl : Nat.ble 1 sizeLine = true)), hn1, [nm k], Nat.le_refl _, (fun x hx => by rw [List.mem_singleton.mp hx]; exact nm_in i (by omega) k (by omega)), by simp, rfl⟩
            refine ws_append (i := 7) (ds := []) rfl ?_
            walk_at "go"
            refine ⟨b, q, 3, rfl, rfl, by decide, by decide, by omega, fun r h0 h4 => ?_⟩
            walk_at "go"
            refine dec2 (fun h3 => ?_) (fun h3 => ?_)
            · walk_at "go"
              refine ⟨b, q, _, rfl, rfl, by omega, by omega, by omega, fun r h0 h4 => ?_⟩
              walk_at "go"
              exact app _ r (by omega) h0 h4
            · walk_at "go"
              exact app _ 0 (by omega) (by omega) (by omega)
          · walk_at "ws1"
            exact none0 _ (by omega)
        · refine itF rfl ?_
          walk_at "ws1"
          exact none0 _ (by omega)
      rintro n1 ρ1 ⟨hn1, ns, hn2, hn3, hn4, rfl⟩
      refine ws_cut (fun n1 ρ1 => n1 ≤ m + 5 ∧ ∃ (ns : List Str) (x8 : SD), ns.length ≤ 2 ∧ (∀ x ∈ ns, x ∈ NM.take i) ∧ ns.Nodup ∧ ρ1 = [.val (.adr b), .val (.int ends), .val (.int least), .val (.int most), .val (.lst (NM.map .str)), .own (es.map evT), .val (.int (i : Int)), .own (ns.map .str), x8, x9]) ?_ ?_
      · have none1 : ∀ n1 x8, n1 ≤ m + 5 → (n1 ≤ m + 5 ∧ ∃ (ns' : List Str) (x8' : SD), ns'.length ≤ 2 ∧ (∀ x ∈ ns', x ∈ NM.take i) ∧ ns'.Nodup ∧ [SD.val (.adr b), .val (.int ends), .val (.int least), .val (.int most), .val (.lst (NM.map .str)), .own (es.map evT), .val (.int (i : Int)), .own (ns.map .str), x8, x9] = [.val (.adr b), .val (.int ends), .val (.int least), .val (.int most), .val (.lst (NM.map .str)), .own (es.map evT), .val (.int (i : Int)), .own (ns'.map .str), x8', x9]) := fun n1 x8 h => ⟨h, ns, x8, by omega, hn3, hn4, rfl⟩
        refine ws_if ?_
        walk_at "go"
        refine dec2 (fun h1 => ?_) (fun h1 => ?_)
        · walk_at "go"
          refine ⟨b, q, 3, rfl, rfl, by decide, by decide, by omega, fun r h0 h4 => ?_⟩
          walk_at "go"
          refine dec2 (fun h2 => ?_) (fun h2 => ?_)
          · walk_at "ws1"
            walk_at "ws1"
            walk_at "go"
            refine ⟨b, q, _, rfl, rfl, by omega, by omega, by omega, fun r h0 h4 => ?_⟩
            obtain ⟨k, rfl⟩ : ∃ k : Nat, r = (k : Int) := ⟨r.toNat, by omega⟩
            refine r2_ix (nm_at k (by omega)) ?_
            refine ws_if (wt_look 7 rfl ?_)
            walk_at "go"
            refine r2_notIn rfl (nm_ok _ (nm_mem k (by omega))).2 (fit_strs fun x hx => (nm_ok x (List.mem_of_mem_take (hn3 x hx))).2) ?_
            rw [inD_str]
            refine ⟨_, rfl, decN (fun h3 => ?_) (fun h3 => ?_)⟩
            · refine ws_append (i := 7) (ds := ns.map .str) rfl ?_
              walk_at "go"
              refine ⟨by rw [List.length_map, sizeLine_eq]; omega, by omega, ns ++ [nm k], .val (.str (nm k)), by rw [List.length_append]; show ns.length + 1 ≤ 2; omega, fun x hx => ?_, List.nodup_append.mpr ⟨hn4, by simp, fun a ha b hb => by rw [List.mem_singleton.mp hb]; exact fun e => h3 (e ▸ ha)⟩, ?_⟩
              · rcases List.mem_append.mp hx with z | z
                · exact hn3 x z
                · rw [List.mem_singleton.mp z]; exact nm_in i (by omega) k (by omega)
              · rw [List.map_append]; rfl
            · walk_at "ws1"
              exact none1 _ _ (by omega)
          · walk_at "ws1"
            exact none1 _ _ (by omega)
        · refine itF rfl ?_
          walk_at "ws1"
          exact none1 _ _ (by omega)
      rintro n2 ρ1 ⟨hn5, ns, x8, hn6, hn7, hn8, rfl⟩
      refine ws_cut (fun n1 ρ1 => n1 = n2 + 1 ∧ ∃ kd : Str, (kd = "query" ∨ kd = "action") ∧ ρ1 = [.val (.adr b), .val (.int ends), .val (.int least), .val (.int most), .val (.lst (NM.map .str)), .own (es.map evT), .val (.int (i : Int)), .own (ns.map .str), x8, .val (.str kd)]) ?_ ?_
      · walk_at "ws1"
        walk_at "go"
        refine ⟨Nat.le_of_ble_eq_true rfl, ?_⟩
        walk_at "go"
        refine ⟨b, q, 2, rfl, rfl, by decide, by decide, by omega, fun r h0 h4 => ?_⟩
        obtain rfl | rfl := two h0 h4
        · exact r2_ix (f := .str "query") rfl ⟨rfl, "query", .inl rfl, rfl⟩
        · exact r2_ix (f := .str "action") rfl ⟨rfl, "action", .inr rfl, rfl⟩
      rintro n3 ρ1 ⟨rfl, kd, hkd, rfl⟩
      refine ws_freeze 7 rfl ?_
      refine ws_append (i := 5) (ds := es.map evT) rfl ?_
      walk_at "go"
      refine r2_ix (nm_at i (by omega)) ?_
      walk_at "go"
      refine ⟨b, q, _, rfl, rfl, by omega, by omega, by omega, fun r h0 h4 => ?_⟩
      walk_at "go"
      refine rc_tup rfl ?_
      walk_at "go"
      refine ⟨Nat.le_of_ble_eq_true rfl, by rw [List.length_map, sizeLine_eq]; omega, ?_⟩
      refine ⟨by omega, es ++ [⟨nm i, 1 + r, kd, ns⟩], .val (.int i), .val (.lst (ns.map .str)), x8, .val (.str kd), by rw [List.length_append, hes]; rfl, ho.snoc (by omega) ⟨by rw [hes], by show 1 ≤ 1 + r; omega, by show 1 + r ≤ ends; omega, hkd, hn6, by rw [hes]; exact hn7, hn8⟩, ?_⟩
      rw [List.map_append]; rfl
    · rintro m ρ1 ⟨hm, es, x6, x7, x8, x9, hes, ho, rfl⟩
      rw [rangeD_len] at hm hes
      refine ws_freeze 5 rfl ?_
      walk_at "ws1"
      walk_at "go"
      exact kk es m ho (by omega) (by omega) (by omega)
theorem nodup_len {α : Type} [DecidableEq α] : ∀ (l m : List α), l.Nodup → (∀ x ∈ l, x ∈ m) → l.length ≤ m.length
  | [], _, _, _ => Nat.zero_le _
  | x :: l, m, h, hm => by
    obtain ⟨h1, h2⟩ := List.nodup_cons.mp h
    have hx := hm x List.mem_cons_self
    have ih := nodup_len l (m.erase x) h2 fun y hy => (List.mem_erase_of_ne (fun e : y = x => h1 (by rw [← e]; exact hy))).mpr (hm y (List.mem_cons_of_mem _ hy))
    rw [List.length_erase_of_mem hx] at ih
    have : 0 < m.length := List.length_pos_of_mem hx
    show l.length + 1 ≤ m.length
    omega
theorem erase_map {α β : Type} (f : α → β) : ∀ (l : List α) (k : Nat), (l.map f).eraseIdx k = (l.eraseIdx k).map f
  | [], _ => rfl
  | _ :: _, 0 => rfl
  | x :: l, k + 1 => by
    show f x :: (l.map f).eraseIdx k = f x :: (l.eraseIdx k).map f
    rw [erase_map f l k]
theorem not_in_erase {α : Type} : ∀ (l : List α) (k : Nat) (h : k < l.length), l.Nodup → l[k] ∉ l.eraseIdx k
  | x :: l, 0, _, nd => (List.nodup_cons.mp nd).1
  | x :: l, k + 1, h, nd => fun q => by
    have h' : k < l.length := by simpa using h
    have q' : l[k] ∈ x :: l.eraseIdx k := q
    rcases List.mem_cons.mp q' with z | z
    · exact (List.nodup_cons.mp nd).1 (z ▸ List.getElem_mem h')
    · exact not_in_erase l k h' (List.nodup_cons.mp nd).2 z
theorem filt_len (l ns : List Str) (h : l.Nodup) : l.length ≤ (l.filter fun x => !decide (x ∈ ns)).length + ns.length := by
  have h1 := nodup_len (l.filter fun x => decide (x ∈ ns)) ns (h.filter _) fun x hx => of_decide_eq_true (List.mem_filter.mp hx).2
  have h2 : l.length = (l.filter fun x => decide (x ∈ ns)).length + (l.filter fun x => !decide (x ∈ ns)).length := by
    induction l with
    | nil => rfl
    | cons y l ih =>
      have ih' := ih (List.nodup_cons.mp h).2 (Nat.le_trans (by rw [List.filter_cons]; split <;> simp) h1)
      rw [List.filter_cons, List.filter_cons]
      by_cases q : y ∈ ns
      · simp [q]; omega
      · simp [q]; omega
  omega
def headT : D → D
  | .tup (a :: _) => a
  | _ => .non
def freeOf (ns : List Str) : D → Bool
  | .tup (.str x :: _) => !decide (x ∈ ns)
  | _ => false
theorem left_is (ns : List Str) : ∀ es : List Toy.Ev, ((es.map evT).filter (freeOf ns)).map headT = ((es.map Toy.Ev.nm).filter fun x => !decide (x ∈ ns)).map .str
  | [] => rfl
  | e :: es => by
    have ih := left_is ns es
    rw [List.map_cons, List.map_cons, List.filter_cons, List.filter_cons]
    show List.map headT (if (!decide (e.nm ∈ ns)) = true then _ else _) = _
    by_cases q : (!decide (e.nm ∈ ns)) = true
    · rw [if_pos q, if_pos q, List.map_cons, List.map_cons, ih]; rfl
    · rw [if_neg q, if_neg q]; exact ih
def spWide : L3.Spec := fun bag n ds Φ => ∃ (b q : Addr) (ends : Int) (least most : Nat), bag = some (b, q) ∧ ds = [.adr b, .int ends, .int least, .int most] ∧ 1 ≤ ends ∧ ends ≤ 5 ∧ 1 ≤ least ∧ least ≤ most ∧ most ≤ 8 ∧ n + 200 < 2 ^ 60 ∧ ∀ es n', OrdO ends 3 es → least ≤ es.length → es.length ≤ most → n' ≤ n + 200 → Φ n' (.lst (es.map evT))
abbrev s_law_wide_order : Stmt := top 35
abbrev N_law_wide_order : List Str := ["bag", "ends", "least", "most", "events", "name", "end", "kind", "needs", "event", "left", "more", "turn"]
theorem sc_law_wide_order : FnScope N_law_wide_order ["bag", "ends", "least", "most"] (defScope s_law_wide_order) := ⟨rfl, rfl, rfl, by decide +kernel, rfl, by decide +kernel, by decide +kernel⟩

theorem ok_wide {f : Addr} {fd : FuncData} (F : Fun K "_law_wide_order" "_law_wide_order" s_law_wide_order f fd) (T : Txt mg) (D_law_draw : Dn P w K mg base "_law_draw" 1 ["bag", "limit"] [] [] spDraw) (D_law_order : Dn P w K mg base "_law_order" 2 ["bag", "ends", "least", "most"] [] [] spOrd) : FnOk P w K mg base CX0 3 f fd ["bag", "ends", "least", "most"] (spD K spWide) := by
  refine fn_D F sc_law_wide_order (fun bag n ds Φ h => ?_) (fun cdv A outer s H Ex O bag n ds Φ hr h => ?_)
  · obtain ⟨b, q, ends, least, most, _, e, _⟩ := h
    rw [e]; rfl
  · obtain ⟨b, q, ends, least, most, eb, e, he1, he5, hl1, hlm, hm8, hn, kk⟩ := h
    subst eb; subst e
    refine ⟨_, (pss_cons (ps_set (i := 4) sc_law_wide_order.nd rfl (Or.inl rfl) (pe_lst pa_nil))
  (pss_cons (ps_for PassesOwn.never rfl (x_seq K (pe_call D_law_order.G (hr.mono (by decide)) (by rfl) D_law_order.m D_law_order.k D_law_order.b D_law_order.v pass0 (pa_cons (pv 0) (pa_cons (pv 1) (pa_cons (pv 2) (pa_cons (pv 3) pa_nil)))))) (x_tgt K (pg_tup (by rfl) (pgs_cons (pg_name (i := 5) sc_law_wide_order.nd rfl (Or.inl rfl)) (pgs_cons (pg_name (i := 6) sc_law_wide_order.nd rfl (Or.inl rfl)) (pgs_cons (pg_name (i := 7) sc_law_wide_order.nd rfl (Or.inl rfl)) (pgs_cons (pg_name (i := 8) sc_law_wide_order.nd rfl (Or.inr rfl)) pgs_nil)))))) (pss_cons (ps_setLc (i := 10) (own := [("event", 9)]) (g := gName 9) rfl sc_law_wide_order.nd rfl rfl (sw_true rfl rfl rfl (by decide +kernel)) (x_seq K (pv 4)) (blkOk_by (own := [("event", 9)]) (N := N_law_wide_order) (sc := defScope s_law_wide_order) (by decide +kernel)) (fun _ _ _ _ _ => (pg_name (i := 9) sc_law_wide_order.nd rfl (Or.inl rfl))) (fun _ _ _ _ _ => (pts_one (pt_cmpR (x_notIn K (by exact hu65 hr)) (pe_ix (x_ix K) (pv 9) pe_int (fun _ _ => rfl)) (pv 8) (by with_unfolding_all rfl)))) (fun _ _ _ _ _ => (pe_ix (x_ix K) (pv 9) pe_int (fun _ _ => rfl))))
  (pss_cons (ps_if (PW.pt (pw_and (pt_cmpR op_gt (pe_callB (x_len K) (by rfl) T.b_len (by decide +kernel) (pa_cons (pv 4) pa_nil)) pe_int (nomark _)) (pw_and1 (pt_cmpR (x_eq K (by exact hr.units)) (pe_call D_law_draw.G (hr.mono (by decide)) (by rfl) D_law_draw.m D_law_draw.k D_law_draw.b D_law_draw.v pass0 (pa_cons (pv 0) (pa_cons pe_int pa_nil))) pe_int (nomark _))))) (pss_cons (ps_set (i := 11) sc_law_wide_order.nd rfl (Or.inl rfl) (pe_callTy (x_list K) (by rfl) T.b_list (by decide +kernel) (pa_cons (pv 8) pa_nil)))
  (pss_cons (ps_for PassesOwn.never rfl (pi_range1 (by rfl) T.b_range (pa_cons (pe_op op_sub pe_int (pe_callB (x_len K) (by rfl) T.b_len (by decide +kernel) (pa_cons (pv 8) pa_nil))) pa_nil)) (pg_name (i := 12) sc_law_wide_order.nd rfl (Or.inl rfl)) (pss_one (ps_expr (pe_bm PySem.F.plainAttrs_list PySem.F.slot_list_append PySem.F.type_list_append mt_append (pv 11) (pa_cons (x_bm K (id := "list.pop") (pe_bm PySem.F.plainAttrs_list PySem.F.slot_list_pop PySem.F.type_list_pop mt_popAt (pv 10) (pa_cons (pe_call D_law_draw.G (hr.mono (by decide)) (by rfl) D_law_draw.m D_law_draw.k D_law_draw.b D_law_draw.v pass0 (pa_cons (pv 0) (pa_cons (pe_callB (x_len K) (by rfl) T.b_len (by decide +kernel) (pa_cons (pv 10) pa_nil)) pa_nil))) pa_nil))) pa_nil)))))
  (pss_one (ps_set (i := 8) sc_law_wide_order.nd rfl (Or.inr rfl) (pe_callTy (x_tup K) (by rfl) T.b_tuple (by decide +kernel) (pa_cons (pv 11) pa_nil)))))) pss_nil)
  (pss_one (ps_expr (pe_bm PySem.F.plainAttrs_list PySem.F.slot_list_append PySem.F.type_list_append mt_append (pv 4) (pa_cons (pe_tup (pa_cons (pv 5) (pa_cons (pv 6) (pa_cons (pv 7) (pa_cons (pv 8) pa_nil))))) pa_nil)))))))
  (pss_one (ps_ret (pv 4))))), ?_⟩
    show WS _ _ [.val (.adr b), .val (.int ends), .val (.int least), .val (.int most), .un, .un, .un, .un, .un, .un, .un, .un, .un] n _
    walk_at "ws1"
    refine ws_own (i := 4) (Nat.le_of_ble_eq_true rfl) (wf_lst (wa_nil ⟨Nat.zero_le _, ?_⟩))
    walk_at "ws1"
    refine ws_for ?_
    walk_at "go"
    refine ⟨b, q, ends, least, most, rfl, rfl, he1, he5, hl1, hlm, hm8, by omega, fun es n0 ho h1 h2 hn0 => ?_⟩
    walk_at "go"
    refine ⟨fun i m ρ => m ≤ n0 + 4 * i ∧ ∃ (out : List Toy.Ev) (x5 x6 x7 x8 x9 x10 x11 x12 : SD), out.length = i ∧ OrdO ends 3 out ∧ ρ = [.val (.adr b), .val (.int ends), .val (.int least), .val (.int most), .own (out.map evT), x5, x6, x7, x8, x9, x10, x11, x12], ⟨Nat.le_refl _, [], .un, .un, .un, .un, .un, .un, .un, .un, rfl, ⟨Nat.zero_le _, fun i e h => by simp at h⟩, rfl⟩, ?_, ?_⟩
    · rintro i m ρ1 d hd ⟨hm, out, x5, x6, x7, x8, x9, x10, x11, x12, hes, hout, rfl⟩
      obtain ⟨e, hee, rfl, hmem, tk⟩ := map_at hd
      have He := ho.2 i e hee
      have hi : i < es.length := (List.getElem?_eq_some_iff.mp hee).1
      have hi8 : i < 8 := by omega
      have hnames := hout.names
      rw [hes] at hnames
      have hnl : (NM.take i).length = i := by rw [List.length_take]; have : NM.length = 8 := rfl; omega
      have hnd : (NM.take i).Nodup := NM_nodup.sublist (List.take_sublist _ _)
      walk_at "go"
      walk_at "ws1"
      refine ws_own (i := 10) (Nat.le_of_ble_eq_true rfl) (wf_look 4 rfl (wf_map headT (freeOf e.needs) ?_))
      walk_at "go"
      refine ⟨by rw [List.length_map]; omega, fun d hd m => ?_, ?_⟩
      · obtain ⟨x, hx, rfl⟩ := List.mem_map.mp hd
        have hxn : x.nm ∈ NM.take i := by rw [← hnames]; exact List.mem_map.mpr ⟨x, hx, rfl⟩
        walk_at "go"
        refine r2_notIn rfl (nm_ok _ (List.mem_of_mem_take hxn)).2 (fit_strs fun y hy => (nm_ok y (List.mem_of_mem_take (He.ns y hy))).2) ?_
        rw [inD_str]
        refine ⟨_, rfl, rfl, rfl, fun _ => ?_⟩
        walk_at "go"
        exact ⟨rfl, rfl⟩
      rw [left_is, hnames]
      refine ⟨fun d hd => by obtain ⟨x, _, rfl⟩ := List.mem_map.mp hd; rfl, ?_⟩
      generalize hlf : (NM.take i).filter (fun x => !decide (x ∈ e.needs)) = lf
      have hlf1 : i ≤ lf.length + e.needs.length := by
        have := filt_len (NM.take i) e.needs hnd
        rw [hnl, hlf] at this
        exact this
      have hlf2 : ∀ x ∈ lf, x ∈ NM.take i ∧ x ∉ e.needs := fun x hx => by
        rw [← hlf] at hx
        have := List.mem_filter.mp hx
        exact ⟨this.1, by simpa using this.2⟩
      have hlf3 : lf.Nodup := by rw [← hlf]; exact hnd.filter _
      show WS _ _ [.val (.adr b), .val (.int ends), .val (.int least), .val (.int most), .own (out.map evT), .val (.str e.nm), .val (.int e.at_), .val (.str e.kind), .val (.tup (e.needs.map .str)), x9, .own (lf.map .str), x11, x12] m _
      refine ws_cut (fun n1 ρ1 => n1 ≤ m + 4 ∧ ∃ (ns : List Str) (x9 x10 x11 x12 : SD), ns.length ≤ 3 ∧ (∀ x ∈ ns, x ∈ NM.take i) ∧ ns.Nodup ∧ ρ1 = [.val (.adr b), .val (.int ends), .val (.int least), .val (.int most), .own (out.map evT), .val (.str e.nm), .val (.int e.at_), .val (.str e.kind), .val (.tup (ns.map .str)), x9, x10, x11, x12]) ?_ ?_
      · have hnl2 := He.nl
        refine ws_if (wt_look 4 rfl ?_)
        walk_at "go"
        refine dec2 (fun h1 => ?_) (fun h1 => ?_)
        · rw [List.length_map, hes] at h1
          walk_at "go"
          refine ⟨b, q, 5, rfl, rfl, by decide, by decide, by omega, fun r h0 h4 => ?_⟩
          walk_at "go"
          refine dec2 (fun h2 => ?_) (fun h2 => ?_)
          · walk_at "ws1"
            refine ws_own (i := 11) (Nat.le_of_ble_eq_true rfl) (wf_list1 ?_)
            walk_at "go"
            walk_at "ws1"
            refine ws_for ?_
            walk_at "go"
            rw [List.length_map]
            refine ⟨by omega, by omega, ?_⟩
            have hcn : ((3 : Int) - (e.needs.length : Nat)).toNat = 3 - e.needs.length := by omega
            rw [hcn]
            refine ⟨fun t m1 ρ => m1 ≤ m + 1 + t ∧ ∃ (mo lf : List Str) (x12 : SD), mo.length = e.needs.length + t ∧ i ≤ lf.length + mo.length ∧ (∀ x ∈ mo, x ∈ NM.take i) ∧ mo.Nodup ∧ (∀ x ∈ lf, x ∈ NM.take i ∧ x ∉ mo) ∧ lf.Nodup ∧ ρ = [.val (.adr b), .val (.int ends), .val (.int least), .val (.int most), .own (out.map evT), .val (.str e.nm), .val (.int e.at_), .val (.str e.kind), .val (.tup (e.needs.map .str)), x9, .own (lf.map .str), .own (mo.map .str), x12], ⟨Nat.le_refl _, e.needs, lf, x12, rfl, hlf1, He.ns, He.nd, hlf2, hlf3, rfl⟩, ?_, ?_⟩
            · rintro t m1 ρ1 d hd ⟨hm1, mo, lf, x12, hmo, hlm1, hmo2, hmo3, hlf4, hlf5, rfl⟩
              obtain ⟨ht, rfl⟩ := rangeD_get hd
              have hlpos : 0 < lf.length := by omega
              walk_at "wg1"
              refine ws_appendPop (i := 11) (j := 10) (ds := mo.map .str) (es := lf.map .str) rfl rfl (by decide) ?_
              refine we_look 10 rfl ?_
              walk_at "go"
              rw [List.length_map]
              have hl8 : lf.length ≤ 8 := by
                have := nodup_len lf (NM.take i) hlf5 fun x hx => (hlf4 x hx).1
                omega
              refine ⟨b, q, _, rfl, rfl, by omega, by omega, by omega, fun r h0 h4 => ?_⟩
              obtain ⟨k, rfl⟩ : ∃ k : Nat, r = (k : Int) := ⟨r.toNat, by omega⟩
              have hk : k < lf.length := by omega
              have hki : lf[k]? = some lf[k] := List.getElem?_eq_getElem hk
              have hkm : lf[k] ∈ lf := List.getElem_mem hk
              refine ⟨rfl, k, .str lf[k], rfl, by rw [List.getElem?_map, hki]; rfl, by omega, by rw [List.length_map, sizeLine_eq]; omega, ?_⟩
              have er : (lf.map D.str).eraseIdx k = (lf.eraseIdx k).map .str := erase_map _ _ _
              have hle := List.length_eraseIdx_of_lt hk
              refine ⟨by omega, mo ++ [lf[k]], lf.eraseIdx k, .val (.int (0 + (t : Int))), by rw [List.length_append]; show mo.length + 1 = _; omega, by rw [List.length_append]; show _ ≤ _ + (mo.length + 1); omega, fun x hx => ?_, List.nodup_append.mpr ⟨hmo3, by simp, fun a ha b hb => by rw [List.mem_singleton.mp hb]; exact fun e => (hlf4 _ hkm).2 (e ▸ ha)⟩, fun x hx => ?_, hlf5.sublist (List.eraseIdx_sublist _ _), ?_⟩
              · rcases List.mem_append.mp hx with z | z
                · exact hmo2 x z
                · rw [List.mem_singleton.mp z]; exact (hlf4 _ hkm).1
              · have hxl := (List.eraseIdx_sublist lf k).subset hx
                refine ⟨(hlf4 x hxl).1, fun z => ?_⟩
                rcases List.mem_append.mp z with z | z
                · exact (hlf4 x hxl).2 z
                · rw [List.mem_singleton.mp z] at hx
                  exact not_in_erase lf k hk hlf5 hx
              · rw [List.map_append, ← er]; rfl
            · rintro m1 ρ1 ⟨hm1, mo, lf, x12, hmo, hlm1, hmo2, hmo3, hlf4, hlf5, rfl⟩
              rw [rangeD_len] at hm1 hmo
              refine ws_freeze 11 rfl ?_
              walk_at "ws1"
              walk_at "go"
              refine rc_tup rfl ?_
              exact ⟨by omega, mo, x9, .own (lf.map .str), .val (.lst (mo.map .str)), x12, by omega, hmo2, hmo3, rfl⟩
          · walk_at "ws1"
            exact ⟨by omega, e.needs, x9, _, x11, x12, by omega, He.ns, He.nd, rfl⟩
        · refine itF rfl ?_
          walk_at "ws1"
          exact ⟨by omega, e.needs, x9, _, x11, x12, by omega, He.ns, He.nd, rfl⟩
      rintro n1 ρ1 ⟨hn1, ns, x9, x10, x11, x12, hn3, hn4, hn5, rfl⟩
      refine ws_append (i := 4) (ds := out.map evT) rfl ?_
      walk_at "go"
      refine ⟨Nat.le_of_ble_eq_true rfl, by rw [List.length_map, sizeLine_eq]; omega, ?_⟩
      refine ⟨by omega, out ++ [⟨e.nm, e.at_, e.kind, ns⟩], .val (.str e.nm), .val (.int e.at_), .val (.str e.kind), .val (.tup (ns.map .str)), x9, x10, x11, x12, by rw [List.length_append, hes]; rfl, hout.snoc (by omega) ⟨by rw [hes]; exact He.nm, He.a1, He.a2, He.kd, hn3, by rw [hes]; exact hn4, hn5⟩, ?_⟩
      rw [List.map_append]; rfl
    · rintro m ρ1 ⟨hm, out, x5, x6, x7, x8, x9, x10, x11, x12, hes, hout, rfl⟩
      rw [List.length_map] at hm hes
      refine ws_freeze 4 rfl ?_
      walk_at "ws1"
      walk_at "go"
      exact kk out m hout (by omega) (by omega) (by omega)
end
end Toy
namespace L3
open PySem L2
theorem ws_cut2 {c : Ctx} {ρ : List SD} {n : Nat} {ts us : TS} {Ψ : Out} (Nx : Nat → List SD → Prop) (h : WS c ts ρ n { nx := Nx, rt := Ψ.rt }) (k : ∀ n1 ρ1, Nx n1 ρ1 → WS c us ρ1 n1 Ψ) : WS c (tSeq ts us) ρ n Ψ :=
  ws_seq (h.mono (fun n1 ρ1 q => k n1 ρ1 q) (fun _ _ q => q) (fun _ _ q => q.elim) (fun _ _ q => q.elim))
end L3
namespace Toy
open PySem L2 L3
local macro_rules | `(tactic| walk_at "we1") => `(tactic| first
  | ((with_reducible refine' we_var ?hv ?_); (case hv => rfl))
  | (with_reducible refine we_int ?_)
  | (with_reducible refine we_str ?_)
  | (with_reducible refine we_bl ?_)
  | (with_reducible refine we_non ?_)
  | ((with_reducible refine' we_dix ?hv ?_); (case hv => rfl))
  | (with_reducible refine we_op ?_)
  | ((with_reducible refine' we_dget ?hv ?_); (case hv => rfl))
  | (with_reducible refine we_count ?_)
  | (with_reducible refine we_cb ?_)
  | (with_reducible refine we_call0 ?_)
  | (with_reducible refine we_tup ?_)
  | (with_reducible refine we_lst ?_)
  | (with_reducible refine we_if ?_)
  | (with_reducible refine we_not ?_)
  | (with_reducible refine we_and ?_)
  | (with_reducible refine we_or ?_)
  | (with_reducible refine we_isN ?_)
  | (with_reducible refine we_notN ?_)
  | (with_reducible refine we_sl ?_)
  | (with_reducible refine wa_cons ?_)
  | (with_reducible refine wa_nil ?_)
  | (with_reducible refine wt_test ?_)
  | (with_reducible refine wt_B ?_)
  | (with_reducible refine wt_and ?_)
  | (with_reducible refine wt_or ?_)
  | (with_reducible refine wt_not ?_)
  | (with_reducible refine wt_yes ?_)
  | (with_reducible refine wo_none ?_)
  | (with_reducible refine wo_some ?_)
  | ((with_reducible refine' r2_ix ?hx ?_); (case hx => rfl))
  | (with_reducible refine r2_isN ?_)
  | (with_reducible refine r2_notN ?_)
  | (with_reducible refine r2_lt ?_)
  | (with_reducible refine r2_le ?_)
  | (with_reducible refine r2_gt ?_)
  | (with_reducible refine r2_ge ?_)
  | (with_reducible refine r2_sub ?_)
  | (with_reducible refine r2_addI ?_)
  | (with_reducible refine r2_eqI ?_)
  | (with_reducible refine r2_neI ?_)
  | (with_reducible refine rc_int ?_)
  | (with_reducible refine rc_abs ?_)
  | ((with_reducible refine' rc_len ?hl ?_); (case hl => rfl))
  | (with_reducible refine wi_seq ?_)
  | (with_reducible refine wi_rng1 ?_)
  | (with_reducible refine wi_rng2 ?_)
  | (with_reducible refine wi_enum ?_)
  | (refine ⟨_, rfl, ?_⟩))
local macro_rules | `(tactic| walk_at "ws1") => `(tactic| first
  | (with_reducible refine ws_seq ?_)
  | (with_reducible refine ws_set ?_)
  | (with_reducible refine ws_ret ?_)
  | (with_reducible refine ws_if ?_)
  | (with_reducible refine ws_next ?_)
  | (with_reducible refine ws_asg ?_))
local macro_rules | `(tactic| walk_at "wg1") => `(tactic| first
  | (with_reducible refine wg_name (rw_name (by decide)) ?_)
  | (with_reducible refine wg_name (fun _ _ => trivial) ?_)
  | ((with_reducible refine' wg_tup ?hl ?_); (case hl => rfl))
  | (with_reducible refine wgs_cons rw_trans ?_)
  | (with_reducible refine wgs_nil rw_refl ?_)
  | (with_reducible refine wgs_cons (fun _ _ _ _ _ => trivial) ?_)
  | (with_reducible refine wgs_nil (fun _ => trivial) ?_))
local macro_rules | `(tactic| walk_at "go") => `(tactic| repeat' (first | walk_at "we1" | walk_at "wg1"))
section
variable {P : Program} {w : World} {K : PySem.W.Frag} {mg : Str → Option Value} {base : Heap}
/-! the bag -/
def spBag (K : PySem.W.Frag) : Sp := fun vs H Q _ => ∃ (a : Addr) (ns : List Int), vs = [.ref a] ∧ SqL K H a (ns.map V.int) ∧ ns.length ≤ 63 ∧
  ∀ (b q : Addr) (cs : List Int) (H' : Hp), q ≠ b → H' b = some (.lst [.ref q, .int 0, .int 0]) → H' q = some (.lst (cs.map V.int)) → cs ≠ [] → (∀ c ∈ cs, 0 ≤ c) → cs.length ≤ 63 → Q (.ref b) H'
def absD : D → D
  | .int i => .int (if i < 0 then -i else i)
  | d => d
abbrev s_law_bag : Stmt := top 23
abbrev N_law_bag : List Str := ["script", "cell", "cells"]
theorem sc_law_bag : FnScope N_law_bag ["script"] (defScope s_law_bag) := ⟨rfl, rfl, rfl, by decide +kernel, rfl, by decide +kernel, by decide +kernel⟩

theorem ok_bag {f : Addr} {fd : FuncData} (F : Fun K "_law_bag" "_law_bag" s_law_bag f fd) (T : Txt mg) : FnOk P w K mg base CX0 1 f fd ["script"] (spBag K) := by
  refine F.ok sc_law_bag (fun vs H Q E h => ?_) (fun cdv A outer s H vs Q E hr h => ?_)
  · obtain ⟨a, ns, rfl, _⟩ := h
    rfl
  · obtain ⟨a, ns, rfl, hS, hlen, k⟩ := h
    refine ⟨_, (pss_cons (ps_setLc (i := 2) (own := [("cell", 1)]) (g := gName 1) (tt := tYes) rfl sc_law_bag.nd rfl rfl (sw_true rfl rfl rfl (by decide +kernel)) (x_seq K (pe_slice (x_sl K) (pv 0) po_none (po_some pe_int))) (blkOk_by (own := [("cell", 1)]) (N := N_law_bag) (sc := defScope s_law_bag) (by decide +kernel)) (fun _ _ _ _ _ => (pg_name (i := 1) sc_law_bag.nd rfl (Or.inl rfl))) (fun _ _ _ _ _ => pts_nil) (fun _ _ _ _ _ => (pe_callB call_absX (by rfl) T.b_abs (by decide +kernel) (pa_cons (pv 1) pa_nil))))
  (pss_cons (ps_if (pt_cmpR (x_eq K (by exact hr.units)) (pe_callB (x_len K) (by rfl) T.b_len (by decide +kernel) (pa_cons (pv 2) pa_nil)) pe_int (nomark _)) (pss_one (ps_set (i := 2) sc_law_bag.nd rfl (Or.inl rfl) (pe_lst (pa_cons pe_int pa_nil)))) pss_nil)
  (pss_one (ps_ret (pe_lst (pa_cons (pv 2) (pa_cons pe_int (pa_cons pe_int pa_nil)))))))), ?_⟩
    refine st_seq ?_
    refine' (?W1 : WS ⟨P, w, K, [], none, H⟩ _ [.val (.adr a), .un, .un] 0 { nx := fun n1 ρ1 => ∃ cs : List Int, ρ1 = [.val (.adr a), .un, .own (cs.map .int)] ∧ cs.length ≤ 63 ∧ ∀ c ∈ cs, 0 ≤ c, rt := fun _ _ => False }) (fun _ => none) [] _ H _ ?E1 ?A1
    case E1 =>
      exact { nd := List.nodup_nil, fresh := (fun l hl => nomatch hl), slots := ⟨[], .val (.adr a) (.un (.un .nil)), List.Sublist.refl _⟩, lst := (fun l hl => nomatch hl), bag := (fun b q e => nomatch e), base := Same.refl _,
              pers := (fun _ _ e => nomatch e), bO := (fun b q e => nomatch e), al := (fun o ho => nomatch ho) }
    case W1 =>
      refine ws_own (i := 2) (Nat.le_of_ble_eq_true rfl) (wf_map absD (fun _ => true) ?_)
      refine wi_seq (we_slA (a := a) (ns := ns) rfl hS rfl ?_)
      walk_at "go"
      obtain ⟨ys, e1, e2⟩ := cut_map D.int ns none (some 63)
      have hy := e2.length_le
      rw [e1]
      refine ⟨by rw [List.length_map]; omega, fun d hd m => ?_, ?_⟩
      · obtain ⟨y, hy, rfl⟩ := List.mem_map.mp hd
        walk_at "go"
        refine ⟨rfl, rfl, fun _ => ?_⟩
        walk_at "go"
        exact ⟨rfl, rfl⟩
      rw [filt_all]
      refine ⟨ys.map fun i => if i < 0 then -i else i, ?_, by rw [List.length_map]; omega, fun c hc => ?_⟩
      · rw [List.map_map, List.map_map]; rfl
      · obtain ⟨y, _, rfl⟩ := List.mem_map.mp hc
        by_cases q : y < 0
        · rw [if_pos q]; omega
        · rw [if_neg q]; omega
    refine { nx := fun L n H1 σ1 ρ1 E1 ⟨cs, e, h1, h2⟩ => ?_, rt := fun _ _ _ _ _ _ _ h => h.elim, bk := fun _ _ _ _ _ _ h => h.elim, ct := fun _ _ _ _ _ _ h => h.elim }
    subst e
    dsimp only
    refine st_seq ?_
    refine' (?W2 : WS ⟨P, w, K, [], none, H⟩ _ [.val (.adr a), .un, .own (cs.map .int)] n { nx := fun n1 ρ1 => ∃ cs : List Int, ρ1 = [.val (.adr a), .un, .own (cs.map .int)] ∧ cs.length ≤ 63 ∧ (∀ c ∈ cs, 0 ≤ c) ∧ cs ≠ [], rt := fun _ _ => False }) _ L σ1 H1 _ E1 ?A2
    case W2 =>
      refine ws_if (wt_look 2 rfl ?_)
      walk_at "go"
      refine dec2 (fun hz => ?_) (fun hz => ?_)
      · refine ws_own (i := 2) (Nat.le_of_ble_eq_true rfl) ?_
        refine wf_lst ?_
        walk_at "go"
        exact ⟨Nat.le_of_ble_eq_true rfl, [5], rfl, by decide, by decide, by decide⟩
      · walk_at "ws1"
        refine ⟨cs, rfl, h1, h2, fun q => ?_⟩
        subst q
        exact hz rfl
    refine { nx := fun L n H2 σ2 ρ2 E2 ⟨cs, e, h1, h2, h3⟩ => ?_, rt := fun _ _ _ _ _ _ _ h => h.elim, bk := fun _ _ _ _ _ _ h => h.elim, ct := fun _ _ _ _ _ _ h => h.elim }
    subst e
    obtain ⟨l, xs, g1, g2, g3, _⟩ := E2.own_at (i := 2) rfl
    have ex := g3.ints
    subst ex
    refine ⟨_, g1, Nat.le_of_ble_eq_true rfl, fun p hp => ?_⟩
    have npl : l ≠ p := fun e => by rw [← e, g2] at hp; cases hp
    exact k p l cs _ npl upd_same (by rw [upd_ne npl]; exact g2) h3 h2 h1
/-! an entry of some end -/
theorem goodEvs_inj {es : List Toy.Ev} (h : goodEvs es) {e e' : Toy.Ev} (h1 : e ∈ es) (h2 : e' ∈ es) (hn : e.nm = e'.nm) : e = e' := by
  obtain ⟨i, hi, gi⟩ := goodEvs_mem h h1
  obtain ⟨j, hj, gj⟩ := goodEvs_mem h h2
  rcases Nat.lt_trichotomy i j with q | q | q
  · exact absurd (List.mem_map.mpr ⟨e, List.mem_of_getElem? (by rw [List.getElem?_take, if_pos q]; exact hi), hn⟩) gj.2.1
  · subst q; rw [hi] at hj; exact Option.some.inj hj
  · exact absurd (List.mem_map.mpr ⟨e', List.mem_of_getElem? (by rw [List.getElem?_take, if_pos q]; exact hj), hn.symm⟩) gi.2.1
def spGrown (P : Program) (w : World) : L3.Spec := fun bag n ds Φ => ∃ (b q : Addr) (es : List Toy.Ev) (W : Wd) (V : Str → Int) (tt : D), bag = some (b, q) ∧ ds = [.adr b, .lst (es.map evT), wD P w W, tt] ∧ goodEvs es ∧ 0 < es.length ∧ okW W ∧ IsTrue W es V ∧ (∀ x, (V x).natAbs ≤ 2 ^ 160) ∧ n + 10 < 2 ^ 60 ∧
  ∀ e ∈ es, ∀ (ks : List Int) (n' : Nat), ks.length = e.needs.length → n' ≤ n + 10 → Φ n' (.tup [.int e.at_, entD ⟨e.nm, ks, ans W e.nm ks⟩])
abbrev s_law_grown : Stmt := top 38
abbrev N_law_grown : List Str := ["bag", "events", "world", "tables", "name", "end", "kind", "needs", "true", "need", "key"]
theorem sc_law_grown : FnScope N_law_grown ["bag", "events", "world", "tables"] (defScope s_law_grown) := ⟨rfl, rfl, rfl, by decide +kernel, rfl, by decide +kernel, by decide +kernel⟩

theorem ok_grown {f : Addr} {fd : FuncData} (F : Fun K "_law_grown" "_law_grown" s_law_grown f fd) (T : Txt mg) (D_law_draw : Dn P w K mg base "_law_draw" 1 ["bag", "limit"] [] [] spDraw) (D_law_answer : Dn P w K mg base "_law_answer" 1 ["world", "name", "key"] [] [] (spAns P w)) (D_law_true : Dn P w K mg base "_law_true" 2 ["events", "world"] [] [] (spTrue P w)) : FnOk P w K mg base CX0 3 f fd ["bag", "events", "world", "tables"] (spD K (spGrown P w)) := by
  refine fn_D F sc_law_grown (fun bag n ds Φ h => ?_) (fun cdv A outer s H Ex O bag n ds Φ hr h => ?_)
  · obtain ⟨b, q, es, W, V, tt, _, e, _⟩ := h
    rw [e]; rfl
  · obtain ⟨b, q, es, W, V, tt, eb, e, hg, hpos, hW, hV, hb, hn, kk⟩ := h
    subst eb; subst e
    refine ⟨_, (pss_cons (ps_asg (pe_ix (x_ix K) (pv 1) (pe_call D_law_draw.G (hr.mono (by decide)) (by rfl) D_law_draw.m D_law_draw.k D_law_draw.b D_law_draw.v pass0 (pa_cons (pv 0) (pa_cons (pe_callB (x_len K) (by rfl) T.b_len (by decide +kernel) (pa_cons (pv 1) pa_nil)) pa_nil))) (fun _ _ => rfl)) (x_tgt K (pg_tup (by rfl) (pgs_cons (pg_name (i := 4) sc_law_grown.nd rfl (Or.inl rfl)) (pgs_cons (pg_name (i := 5) sc_law_grown.nd rfl (Or.inl rfl)) (pgs_cons (pg_name (i := 6) sc_law_grown.nd rfl (Or.inl rfl)) (pgs_cons (pg_name (i := 7) sc_law_grown.nd rfl (Or.inl rfl)) pgs_nil)))))))
  (pss_cons (ps_set (i := 8) sc_law_grown.nd rfl (Or.inl rfl) (pe_dget (by exact hu1 hr) (pe_call D_law_true.G (hr.mono (by decide)) (by rfl) D_law_true.m D_law_true.k D_law_true.b D_law_true.v pass0 (pa_cons (pv 1) (pa_cons (pv 2) pa_nil))) (pv 4) (fun _ _ => rfl)))
  (pss_cons (ps_if (PW.pt (pw_or (pt_cmpR (x_eq K (by exact hr.units)) (pv 6) pe_str (nomark _)) (pw_or1 (pt_cmpR op_gt (pe_call D_law_draw.G (hr.mono (by decide)) (by rfl) D_law_draw.m D_law_draw.k D_law_draw.b D_law_draw.v pass0 (pa_cons (pv 0) (pa_cons pe_int pa_nil))) pe_int (nomark _))))) (pss_one (ps_ret (pe_tup (pa_cons (pv 5) (pa_cons (pe_tup (pa_cons (pv 4) (pa_cons (pe_ix (x_ix K) (pv 8) pe_int (fun _ _ => rfl)) (pa_cons (pe_ix (x_ix K) (pv 8) pe_int (fun _ _ => rfl)) pa_nil)))) pa_nil))))) pss_nil)
  (pss_cons (ps_set (i := 10) sc_law_grown.nd rfl (Or.inl rfl) (pe_callTy (x_tup K) (by rfl) T.b_tuple (by decide +kernel) (pa_cons (pe_lc (own := [("need", 9)]) (g := gName 9) (tt := tYes) rfl sc_law_grown.nd (x_seq K (pv 7)) (blkOk_by (own := [("need", 9)]) (N := N_law_grown) (sc := defScope s_law_grown) (by decide +kernel)) (fun _ _ _ _ _ => (pg_name (i := 9) sc_law_grown.nd rfl (Or.inl rfl))) (fun _ _ _ _ _ => pts_nil) (fun _ _ _ _ _ => (pe_call D_law_draw.G (hr.mono (by decide)) (by rfl) D_law_draw.m D_law_draw.k D_law_draw.b D_law_draw.v pass0 (pa_cons (pv 0) (pa_cons pe_int pa_nil))))) pa_nil)))
  (pss_one (ps_ret (pe_tup (pa_cons (pv 5) (pa_cons (pe_tup (pa_cons (pv 4) (pa_cons (pv 10) (pa_cons (pe_call D_law_answer.G (hr.mono (by decide)) (by rfl) D_law_answer.m D_law_answer.k D_law_answer.b D_law_answer.v pass0 (pa_cons (pv 2) (pa_cons (pv 4) (pa_cons (pv 10) pa_nil)))) pa_nil)))) pa_nil))))))))), ?_⟩
    show WS _ _ [.val (.adr b), .val (.lst (es.map evT)), .val (wD P w W), .val tt, .un, .un, .un, .un, .un, .un, .un] n _
    have h12 := hg.1
    refine ws_cut (fun n1 ρ1 => n1 = n + 1 ∧ ∃ e ∈ es, ρ1 = [.val (.adr b), .val (.lst (es.map evT)), .val (wD P w W), .val tt, .val (.str e.nm), .val (.int e.at_), .val (.str e.kind), .val (.tup (e.needs.map .str)), .un, .un, .un]) ?_ ?_
    · walk_at "ws1"
      walk_at "go"
      rw [List.length_map]
      refine ⟨b, q, _, rfl, rfl, by omega, by omega, by omega, fun r h0 h4 => ?_⟩
      obtain ⟨k, rfl⟩ : ∃ k : Nat, r = (k : Int) := ⟨r.toNat, by omega⟩
      have hk : k < es.length := by omega
      refine r2_ix (f := evT es[k]) (ixD_nat (by rw [List.getElem?_map, List.getElem?_eq_getElem hk]; rfl)) ?_
      walk_at "go"
      exact ⟨rfl, es[k], List.getElem_mem hk, rfl⟩
    rintro n1 ρ1 ⟨rfl, e, he, rfl⟩
    have hnl : e.needs.length ≤ 3 := by
      obtain ⟨i, _, g⟩ := goodEvs_mem hg he
      exact g.2.2.2.2.2.1
    obtain ⟨e', he', en, el⟩ := look_tr V e.nm es (List.mem_map.mpr ⟨e, he, rfl⟩)
    have ee := goodEvs_inj hg he' he en
    subst ee
    walk_at "ws1"
    refine ws_set (we_dget1 ?_)
    walk_at "go"
    refine ⟨es, W, V, rfl, hg, hW, hV, hb, ?_⟩
    refine ⟨_, rfl, ?_⟩
    walk_at "go"
    refine ⟨_, el, ?_⟩
    show WS _ _ [.val (.adr b), .val (.lst (es.map evT)), .val (wD P w W), .val tt, .val (.str e'.nm), .val (.int e'.at_), .val (.str e'.kind), .val (.tup (e'.needs.map .str)), .val (trD V e'), .un, .un] (n + 1) _
    have yes : ∀ n1, n1 ≤ n + 10 → WS ⟨P, w, K, O, some (b, q), H⟩ (tRet (tTup (tCons (tVar 5) (tCons (tTup (tCons (tVar 4) (tCons (tOp (rIx K) (tVar 8) (tC (.int 0))) (tCons (tOp (rIx K) (tVar 8) (tC (.int 1))) tNil)))) tNil)))) [.val (.adr b), .val (.lst (es.map evT)), .val (wD P w W), .val tt, .val (.str e'.nm), .val (.int e'.at_), .val (.str e'.kind), .val (.tup (e'.needs.map .str)), .val (trD V e'), .un, .un] n1 { nx := fun _ _ => False, rt := Φ } := fun n1 hn1 => by
      walk_at "ws1"
      walk_at "go"
      refine ⟨Nat.le_of_ble_eq_true rfl, ?_⟩
      walk_at "go"
      refine ⟨Nat.le_of_ble_eq_true rfl, ?_⟩
      have := kk e' he (e'.needs.map V) n1 (List.length_map _) hn1
      rw [← hV e' he] at this
      exact this
    refine ws_cut2 (Nx := fun n1 ρ1 => n1 ≤ n + 2 ∧ ρ1 = [.val (.adr b), .val (.lst (es.map evT)), .val (wD P w W), .val tt, .val (.str e'.nm), .val (.int e'.at_), .val (.str e'.kind), .val (.tup (e'.needs.map .str)), .val (trD V e'), .un, .un]) ?_ ?_
    · refine ws_if ?_
      walk_at "go"
      refine r2_eqD (by obtain ⟨i, _, g⟩ := goodEvs_mem hg he; exact g.2.2.2.2.2.2.2.2.2.1) (by decide +kernel) ?_
      rw [eq_str]
      refine ⟨_, rfl, ?_⟩
      refine dec2 (fun h1 => ?_) (fun h1 => ?_)
      · refine itT rfl ?_
        exact (yes _ (by omega)).mono (fun _ _ h => h.elim) (fun _ _ h => h) (fun _ _ h => h.elim) (fun _ _ h => h.elim)
      · walk_at "go"
        refine ⟨b, q, 4, rfl, rfl, by decide, by decide, by omega, fun r h0 h4 => ?_⟩
        walk_at "go"
        refine dec2 (fun h2 => ?_) (fun h2 => ?_)
        · exact (yes _ (by omega)).mono (fun _ _ h => h.elim) (fun _ _ h => h) (fun _ _ h => h.elim) (fun _ _ h => h.elim)
        · walk_at "ws1"
          exact ⟨by omega, rfl⟩
    rintro n1 ρ1 ⟨hn1, rfl⟩
    walk_at "ws1"
    walk_at "ws1"
    refine we_cb (wa_cons (wf_we (wf_lc ?_)))
    walk_at "go"
    refine ⟨fun k m acc => m ≤ n1 + k ∧ ∃ ks : List Int, acc = ks.map .int ∧ ks.length = k ∧ ∀ x ∈ ks, x.natAbs ≤ 3, ⟨Nat.le_refl _, [], rfl, rfl, (fun x hx => nomatch hx)⟩, fun k m acc d hd ⟨hm, ks, e1, e2, e3⟩ => ?_, fun m acc ⟨hm, ks, e1, e2, e3⟩ => ?_⟩
    · obtain ⟨x, hx, rfl, hmem, _⟩ := map_at hd
      have hk : k < e'.needs.length := (List.getElem?_eq_some_iff.mp hx).1
      subst e1
      walk_at "go"
      refine itT rfl ?_
      walk_at "go"
      refine ⟨b, q, 3, rfl, rfl, by decide, by decide, by omega, fun r h0 h4 => ?_⟩
      refine ⟨by rw [List.length_map, sizeLine_eq]; omega, by omega, ks ++ [r], by rw [List.map_append]; rfl, by rw [List.length_append, e2]; rfl, fun x hx => ?_⟩
      rcases List.mem_append.mp hx with z | z
      · exact e3 x z
      · rw [List.mem_singleton.mp z]; omega
    subst e1
    rw [List.length_map] at hm e2
    refine wa_nil (rc_tup rfl ?_)
    walk_at "ws1"
    walk_at "go"
    refine ⟨W, e'.nm, ks, rfl, hW, ⟨by omega, fun x hx => Nat.le_trans (e3 x hx) (by decide)⟩, ?_⟩
    walk_at "go"
    refine ⟨Nat.le_of_ble_eq_true rfl, ?_⟩
    walk_at "go"
    refine ⟨Nat.le_of_ble_eq_true rfl, ?_⟩
    exact kk e' he ks m e2 (by omega)
end
end Toy
namespace Toy
open PySem L2 L3
section
/-! ### the plain law -/
theorem findO_mem {E : List Ent} {nm : Str} {ks : List Int} {v : Int} (h : findO E nm ks = some v) : ∃ x ∈ E, x.nm = nm ∧ x.ks = ks ∧ x.v = v := by
  unfold findO at h
  cases q : E.find? (isE nm ks) with
  | none => rw [q] at h; cases h
  | some x =>
    rw [q] at h
    have hx := List.find?_some q
    unfold isE at hx
    rw [Bool.and_eq_true] at hx
    exact ⟨x, List.mem_of_find?_eq_some q, of_decide_eq_true hx.1, of_decide_eq_true hx.2, Option.some.inj h⟩
theorem findO_some {E : List Ent} {x : Ent} (h : x ∈ E) : ∃ v, findO E x.nm x.ks = some v := by
  unfold findO
  cases q : E.find? (isE x.nm x.ks) with
  | some y => exact ⟨y.v, rfl⟩
  | none =>
    have := List.find?_eq_none.mp q x h
    unfold isE at this
    simp at this
def TrueE (W : Wd) (E : List Ent) : Prop := ∀ x ∈ E, x.v = ans W x.nm x.ks
theorem findO_true {W : Wd} {E : List Ent} (hE : TrueE W E) {nm : Str} {ks : List Int} {v : Int} (h : findO E nm ks = some v) : v = ans W nm ks := by
  obtain ⟨x, hx, rfl, rfl, rfl⟩ := findO_mem h
  exact hE x hx
theorem putE_mem {E : List Ent} {x y : Ent} (h : y ∈ putE E x) : y ∈ E ∨ y = x := by
  unfold putE at h
  split at h
  · rcases List.mem_append.mp ((sortE_perm _).mem_iff.mp h) with q | q
    · exact .inl q
    · exact .inr (List.mem_singleton.mp q)
  · exact .inl h
theorem putE_old' {E : List Ent} {x y : Ent} (h : y ∈ E) : y ∈ putE E x := by
  unfold putE
  split
  · exact (sortE_perm _).mem_iff.mpr (List.mem_append_left _ h)
  · exact h
theorem putE_len (E : List Ent) (x : Ent) : (putE E x).length ≤ E.length + 1 := by
  unfold putE
  split
  · rw [(sortE_perm _).length_eq, List.length_append]; exact Nat.le_refl _
  · omega
theorem putE_find {W : Wd} {E : List Ent} {x : Ent} (hE : TrueE W E) (hx : x.v = ans W x.nm x.ks) : findO (putE E x) x.nm x.ks = some x.v := by
  have ht : TrueE W (putE E x) := fun y hy => by
    rcases putE_mem hy with q | q
    · exact hE y q
    · rw [q]; exact hx
  have : ∃ v, findO (putE E x) x.nm x.ks = some v := by
    by_cases h : isNon (findE E x.nm x.ks) = true
    · exact findO_some (by rw [putE_new h]; exact (sortE_perm _).mem_iff.mpr (List.mem_append_right _ (List.mem_singleton.mpr rfl)))
    · rw [findE_O] at h
      cases q : findO E x.nm x.ks with
      | none => rw [q] at h; exact absurd rfl h
      | some v =>
        obtain ⟨y, hy, e1, e2, _⟩ := findO_mem q
        obtain ⟨v', hv'⟩ := findO_some (putE_old' (x := x) hy)
        rw [e1, e2] at hv'
        exact ⟨v', hv'⟩
  obtain ⟨v, hv⟩ := this
  rw [hv, findO_true ht hv, hx]
/-- tables -/
def tput (T : Tb) (a : Int) (E : List Ent) : Tb := if (T.any fun p => decide (p.1 = a)) = true then T.map fun p => if p.1 = a then (p.1, E) else p else T ++ [(a, E)]
theorem put_tb (T : Tb) (a : Int) (E : List Ent) : putKD (tbD T) (.inl a) (copyD E) = tbD (tput T a E) := by
  unfold putKD tput
  have e : ((tbD T).any fun kv => decide (kv.1 = Sum.inl a)) = T.any fun p => decide (p.1 = a) := by
    unfold tbD
    rw [List.any_map]
    congr 1
    funext p
    simp
  rw [e]
  by_cases h : (T.any fun p => decide (p.1 = a)) = true
  · rw [if_pos h, if_pos h]
    unfold tbD
    rw [List.map_map, List.map_map]
    refine List.map_congr_left fun p _ => ?_
    show (if (Sum.inl p.1 : L2.Key) = Sum.inl a then ((Sum.inl p.1 : L2.Key), copyD E) else (Sum.inl p.1, copyD p.2)) = ((Sum.inl (if p.1 = a then (p.1, E) else p).1 : L2.Key), copyD (if p.1 = a then (p.1, E) else p).2)
    by_cases q : p.1 = a
    · rw [if_pos (by rw [q]), if_pos q]
    · rw [if_neg (fun z => q (Sum.inl.inj z)), if_neg q]
  · rw [if_neg h, if_neg h]
    unfold tbD
    rw [List.map_append]; rfl
theorem at_put (T : Tb) (a b : Int) (E : List Ent) : atT (tput T a E) b = if b = a then some E else atT T b := by
  unfold tput atT
  by_cases h : (T.any fun p => decide (p.1 = a)) = true
  · rw [if_pos h]
    induction T with
    | nil => cases h
    | cons p T ih =>
      rw [List.map_cons]
      by_cases q : p.1 = a
      · rw [if_pos q]
        by_cases r : b = a
        · rw [if_pos r, List.find?_cons_of_pos (by simp [q, r])]; rfl
        · rw [if_neg r, List.find?_cons_of_neg (by simp [q]; exact fun z => r z.symm), List.find?_cons_of_neg (by simp [q]; exact fun z => r z.symm)]
          by_cases h2 : (T.any fun p => decide (p.1 = a)) = true
          · rw [ih h2, if_neg r]
          · have e : (T.map fun p => if p.1 = a then (p.1, E) else p) = T := by
              conv => rhs; rw [← List.map_id T]
              refine List.map_congr_left fun z hz => ?_
              have : ¬ z.1 = a := fun z' => h2 (List.any_eq_true.mpr ⟨z, hz, decide_eq_true z'⟩)
              rw [if_neg this]; rfl
            rw [e]
      · rw [if_neg q]
        have h2 : (T.any fun p => decide (p.1 = a)) = true := by simpa [q] using h
        by_cases r : p.1 = b
        · rw [List.find?_cons_of_pos (by simpa using r), if_neg (fun z => q (r.trans z)), List.find?_cons_of_pos (by simpa using r)]
        · rw [List.find?_cons_of_neg (by simpa using r), List.find?_cons_of_neg (by simpa using r)]
          exact ih h2
  · rw [if_neg h]
    have hn : ∀ p ∈ T, ¬ p.1 = a := fun p hp z => h (List.any_eq_true.mpr ⟨p, hp, decide_eq_true z⟩)
    rw [List.find?_append]
    by_cases r : b = a
    · have : T.find? (fun p => decide (p.1 = b)) = none := List.find?_eq_none.mpr fun p hp => by simpa [r] using hn p hp
      rw [this, if_pos r]
      simp [r]
    · rw [if_neg r]
      cases T.find? (fun p => decide (p.1 = b)) with
      | some p => rfl
      | none =>
        rw [Option.none_or, List.find?_cons_of_neg (by simpa using fun z : a = b => r z.symm)]; rfl
theorem tput_keys (T : Tb) (a : Int) (E : List Ent) (h : (T.map (·.1)).Nodup) : ((tput T a E).map (·.1)).Nodup := by
  unfold tput
  by_cases q : (T.any fun p => decide (p.1 = a)) = true
  · rw [if_pos q, List.map_map]
    have : ((fun p : Int × List Ent => p.1) ∘ fun p => if p.1 = a then (p.1, E) else p) = fun p => p.1 := by
      funext p
      show (if p.1 = a then (p.1, E) else p).1 = p.1
      by_cases z : p.1 = a
      · rw [if_pos z]
      · rw [if_neg z]
    rw [this]; exact h
  · rw [if_neg q, List.map_append]
    refine List.nodup_append.mpr ⟨h, by simp, fun x hx y hy => ?_⟩
    rw [show y = a from List.mem_singleton.mp hy]
    obtain ⟨p, hp, rfl⟩ := List.mem_map.mp hx
    exact fun z => q (List.any_eq_true.mpr ⟨p, hp, decide_eq_true z⟩)
theorem tput_mem {T : Tb} {a : Int} {E : List Ent} {p : Int × List Ent} (h : p ∈ tput T a E) : p = (a, E) ∨ p ∈ T := by
  unfold tput at h
  by_cases q : (T.any fun p => decide (p.1 = a)) = true
  · rw [if_pos q] at h
    obtain ⟨z, hz, rfl⟩ := List.mem_map.mp h
    by_cases y : z.1 = a
    · rw [if_pos y]; left; rw [y]
    · rw [if_neg y]; right; exact hz
  · rw [if_neg q] at h
    rcases List.mem_append.mp h with z | z
    · exact .inr z
    · exact .inl (List.mem_singleton.mp z)
theorem tput_len (T : Tb) (a : Int) (E : List Ent) : (tput T a E).length ≤ T.length + 1 := by
  unfold tput
  split
  · rw [List.length_map]; omega
  · rw [List.length_append]; exact Nat.le_refl _
/-- walks -/
theorem walk_congr {T T' : Tb} (h : ∀ a, atT T a = atT T' a) (es : List Toy.Ev) : walkF T es = walkF T' es := by
  have : stepW T = stepW T' := by
    funext s e
    unfold stepW valT
    rw [h]
  unfold walkF
  rw [this]
theorem told_congr {T T' : Tb} (h : ∀ a, atT T a = atT T' a) (es : List Toy.Ev) : toldF T es = toldF T' es := by
  unfold toldF
  rw [walk_congr h]
theorem told_none (es : List Toy.Ev) : toldF [] es = [] := by
  have : ∀ es, (walkF [] es).2.filterMap (fun r => r.2.2.map fun v => (⟨r.1.nm, r.2.1, v⟩ : Ent)) = [] := by
    intro es
    refine snoc_ind' (P := fun es => (walkF [] es).2.filterMap (fun r => r.2.2.map fun v => (⟨r.1.nm, r.2.1, v⟩ : Ent)) = []) rfl (fun es e ih => ?_) es
    rw [walkF_snoc]
    unfold stepW
    by_cases h : rdy (walkF [] es).1 e = true
    · rw [if_pos h]
      show List.filterMap _ (_ ++ [_]) = []
      rw [List.filterMap_append, ih]; rfl
    · rw [if_neg h]; exact ih
  exact this es
theorem told_snoc (T : Tb) (es : List Toy.Ev) (e : Toy.Ev) : toldF T (es ++ [e]) = toldF T es ++ (if rdy (walkF T es).1 e = true then (match valT T e (keyV (walkF T es).1 e) with | some v => [⟨e.nm, keyV (walkF T es).1 e, v⟩] | none => []) else []) := by
  unfold toldF
  rw [walkF_snoc]
  unfold stepW
  by_cases h : rdy (walkF T es).1 e = true
  · rw [if_pos h, if_pos h]
    show List.filterMap _ (_ ++ [_]) = _
    rw [List.filterMap_append]
    congr 1
    cases valT T e (keyV (walkF T es).1 e) <;> rfl
  · rw [if_neg h, if_neg h, List.append_nil]
theorem vals_snoc (T : Tb) (es : List Toy.Ev) (e : Toy.Ev) (x : Str) : vget (walkF T (es ++ [e])).1 x = if rdy (walkF T es).1 e = true then (match valT T e (keyV (walkF T es).1 e) with | some v => if x = e.nm then some v else vget (walkF T es).1 x | none => vget (walkF T es).1 x) else vget (walkF T es).1 x := by
  rw [walkF_snoc]
  unfold stepW
  by_cases h : rdy (walkF T es).1 e = true
  · rw [if_pos h, if_pos h]
    show vget (match valT T e (keyV (walkF T es).1 e) with | some v => vput (walkF T es).1 e.nm v | none => (walkF T es).1) x = _
    cases valT T e (keyV (walkF T es).1 e) with
    | none => rfl
    | some v => exact vget_put _ _ _ _
  · rw [if_neg h, if_neg h]
def TrueT (W : Wd) (T : Tb) : Prop := ∀ p ∈ T, TrueE W p.2
theorem true_at {W : Wd} {T : Tb} (h : TrueT W T) (a : Int) : TrueE W ((atT T a).getD []) := by
  unfold atT
  cases q : T.find? (fun p => decide (p.1 = a)) with
  | none => exact fun _ h => nomatch h
  | some p => exact h p (List.mem_of_find?_eq_some q)
theorem key_true {V : Str → Int} {vs : Vs} {e : Toy.Ev} (h : ∀ x v, vget vs x = some v → v = V x) (hr : rdy vs e = true) : keyV vs e = e.needs.map V := by
  unfold keyV
  refine List.map_congr_left fun x hx => ?_
  obtain ⟨v, hv⟩ := rdy_get hr hx
  rw [hv]; exact h x v hv
theorem walk_true {W : Wd} {T : Tb} {V : Str → Int} (hT : TrueT W T) (es : List Toy.Ev) : IsTrue W es V → (∀ x v, vget (walkF T es).1 x = some v → v = V x) ∧ ∀ y ∈ toldF T es, ∃ e ∈ es, y = ⟨e.nm, e.needs.map V, V e.nm⟩ := by
  refine snoc_ind' (P := fun es => IsTrue W es V → (∀ x v, vget (walkF T es).1 x = some v → v = V x) ∧ ∀ y ∈ toldF T es, ∃ e ∈ es, y = ⟨e.nm, e.needs.map V, V e.nm⟩) (fun _ => ⟨(fun x v h => by cases h), (fun y h => nomatch h)⟩) (fun es e ih hV => ?_) es
  obtain ⟨i1, i2⟩ := ih fun x hx => hV x (List.mem_append_left _ hx)
  have he := hV e (List.mem_append_right _ (List.mem_singleton.mpr rfl))
  refine ⟨fun x v h => ?_, fun y hy => ?_⟩
  · rw [vals_snoc] at h
    by_cases hr : rdy (walkF T es).1 e = true
    · rw [if_pos hr, key_true i1 hr] at h
      cases hv : valT T e (e.needs.map V) with
      | none => rw [hv] at h; exact i1 x v h
      | some u =>
        rw [hv] at h
        have h' : (if x = e.nm then some u else vget (walkF T es).1 x) = some v := h
        by_cases q : x = e.nm
        · rw [if_pos q] at h'
          rw [← Option.some.inj h', q, he]
          exact findO_true (true_at hT _) hv
        · rw [if_neg q] at h'; exact i1 x v h'
    · rw [if_neg hr] at h; exact i1 x v h
  · rw [told_snoc] at hy
    rcases List.mem_append.mp hy with q | q
    · obtain ⟨e', h1, h2⟩ := i2 y q
      exact ⟨e', List.mem_append_left _ h1, h2⟩
    · by_cases hr : rdy (walkF T es).1 e = true
      · rw [if_pos hr, key_true i1 hr] at q
        cases hv : valT T e (e.needs.map V) with
        | none => rw [hv] at q; cases q
        | some u =>
          rw [hv] at q
          refine ⟨e, List.mem_append_right _ (List.mem_singleton.mpr rfl), ?_⟩
          rw [List.mem_singleton.mp q]
          have : u = V e.nm := by rw [he]; exact findO_true (true_at hT _) hv
          rw [this]
      · rw [if_neg hr] at q; cases q
theorem walk_more {W : Wd} {T T' : Tb} {V : Str → Int} (hT : TrueT W T) (hT' : TrueT W T') (hm : ∀ a nm ks v, findO ((atT T a).getD []) nm ks = some v → ∃ u, findO ((atT T' a).getD []) nm ks = some u) (es : List Toy.Ev) :
    IsTrue W es V → (∀ x v, vget (walkF T es).1 x = some v → vget (walkF T' es).1 x = some v) ∧ ∀ y ∈ toldF T es, y ∈ toldF T' es := by
  refine snoc_ind' (P := fun es => IsTrue W es V → (∀ x v, vget (walkF T es).1 x = some v → vget (walkF T' es).1 x = some v) ∧ ∀ y ∈ toldF T es, y ∈ toldF T' es) (fun _ => ⟨(fun x v h => h), (fun y h => h)⟩) (fun es e ih hV => ?_) es
  have hV' : IsTrue W es V := fun x hx => hV x (List.mem_append_left _ hx)
  obtain ⟨i1, i2⟩ := ih hV'
  have he := hV e (List.mem_append_right _ (List.mem_singleton.mpr rfl))
  have t1 := (walk_true hT es hV').1
  have t2 := (walk_true hT' es hV').1
  have hrr : rdy (walkF T es).1 e = true → rdy (walkF T' es).1 e = true := fun h => by
    refine List.all_eq_true.mpr fun x hx => ?_
    obtain ⟨v, hv⟩ := rdy_get h hx
    rw [i1 x v hv]; rfl
  have same : ∀ u, valT T e (e.needs.map V) = some u → valT T' e (e.needs.map V) = some u := fun u hu => by
    obtain ⟨u', hu'⟩ := hm _ _ _ _ hu
    have e1 := findO_true (true_at hT _) hu
    have e2 := findO_true (true_at hT' _) hu'
    unfold valT
    rw [hu', e1, e2]
  refine ⟨fun x v h => ?_, fun y hy => ?_⟩
  · rw [vals_snoc] at h ⊢
    by_cases hr : rdy (walkF T es).1 e = true
    · rw [if_pos hr, key_true t1 hr] at h
      rw [if_pos (hrr hr), key_true t2 (hrr hr)]
      cases hv : valT T e (e.needs.map V) with
      | some u => rw [hv] at h; rw [same u hv]; show (if x = e.nm then some u else _) = _; have h' : (if x = e.nm then some u else vget (walkF T es).1 x) = some v := h
                  by_cases q : x = e.nm
                  · rw [if_pos q] at h' ⊢; exact h'
                  · rw [if_neg q] at h' ⊢; exact i1 x v h'
      | none =>
        rw [hv] at h
        have g1 := i1 x v h
        cases hv' : valT T' e (e.needs.map V) with
        | none => exact g1
        | some u =>
          show (if x = e.nm then some u else _) = _
          by_cases q : x = e.nm
          · rw [if_pos q]
            have e1 := t1 x v h
            have e2 := findO_true (true_at hT' _) hv'
            rw [e2, e1, q, he]
          · rw [if_neg q]; exact g1
    · rw [if_neg hr] at h
      have g1 := i1 x v h
      by_cases hr' : rdy (walkF T' es).1 e = true
      · rw [if_pos hr', key_true t2 hr']
        cases hv' : valT T' e (e.needs.map V) with
        | none => exact g1
        | some u =>
          show (if x = e.nm then some u else _) = _
          by_cases q : x = e.nm
          · rw [if_pos q]
            have e1 := t1 x v h
            have e2 := findO_true (true_at hT' _) hv'
            rw [e2, e1, q, he]
          · rw [if_neg q]; exact g1
      · rw [if_neg hr']; exact g1
  · rw [told_snoc] at hy ⊢
    rcases List.mem_append.mp hy with q | q
    · exact List.mem_append_left _ (i2 y q)
    · by_cases hr : rdy (walkF T es).1 e = true
      · rw [if_pos hr, key_true t1 hr] at q
        refine List.mem_append_right _ ?_
        rw [if_pos (hrr hr), key_true t2 (hrr hr)]
        cases hv : valT T e (e.needs.map V) with
        | none => rw [hv] at q; cases q
        | some u => rw [hv] at q; rw [same u hv]; exact q
      · rw [if_neg hr] at q; cases q
end
end Toy
namespace Toy
open PySem L2 L3
local macro_rules | `(tactic| walk_at "we1") => `(tactic| first
  | ((with_reducible refine' we_var ?hv ?_); (case hv => rfl))
  | (with_reducible refine we_int ?_)
  | (with_reducible refine we_str ?_)
  | (with_reducible refine we_bl ?_)
  | (with_reducible refine we_non ?_)
  | ((with_reducible refine' we_dix ?hv ?_); (case hv => rfl))
  | (with_reducible refine we_op ?_)
  | ((with_reducible refine' we_dget ?hv ?_); (case hv => rfl))
  | (with_reducible refine we_count ?_)
  | (with_reducible refine we_cb ?_)
  | (with_reducible refine we_call0 ?_)
  | (with_reducible refine we_tup ?_)
  | (with_reducible refine we_lst ?_)
  | (with_reducible refine we_if ?_)
  | (with_reducible refine we_not ?_)
  | (with_reducible refine we_and ?_)
  | (with_reducible refine we_or ?_)
  | (with_reducible refine we_isN ?_)
  | (with_reducible refine we_notN ?_)
  | (with_reducible refine we_sl ?_)
  | (with_reducible refine wa_cons ?_)
  | (with_reducible refine wa_nil ?_)
  | (with_reducible refine wt_test ?_)
  | (with_reducible refine wt_B ?_)
  | (with_reducible refine wt_and ?_)
  | (with_reducible refine wt_or ?_)
  | (with_reducible refine wt_not ?_)
  | (with_reducible refine wt_yes ?_)
  | (with_reducible refine wo_none ?_)
  | (with_reducible refine wo_some ?_)
  | ((with_reducible refine' r2_ix ?hx ?_); (case hx => rfl))
  | (with_reducible refine r2_isN ?_)
  | (with_reducible refine r2_notN ?_)
  | (with_reducible refine r2_lt ?_)
  | (with_reducible refine r2_le ?_)
  | (with_reducible refine r2_gt ?_)
  | (with_reducible refine r2_ge ?_)
  | (with_reducible refine r2_sub ?_)
  | (with_reducible refine r2_addI ?_)
  | (with_reducible refine r2_eqI ?_)
  | (with_reducible refine r2_neI ?_)
  | (with_reducible refine rc_int ?_)
  | (with_reducible refine rc_abs ?_)
  | ((with_reducible refine' rc_len ?hl ?_); (case hl => rfl))
  | (with_reducible refine wi_seq ?_)
  | (with_reducible refine wi_rng1 ?_)
  | (with_reducible refine wi_rng2 ?_)
  | (with_reducible refine wi_enum ?_)
  | (refine ⟨_, rfl, ?_⟩))
local macro_rules | `(tactic| walk_at "ws1") => `(tactic| first
  | (with_reducible refine ws_seq ?_)
  | (with_reducible refine ws_set ?_)
  | (with_reducible refine ws_ret ?_)
  | (with_reducible refine ws_if ?_)
  | (with_reducible refine ws_next ?_)
  | (with_reducible refine ws_asg ?_))
local macro_rules | `(tactic| walk_at "wg1") => `(tactic| first
  | (with_reducible refine wg_name (rw_name (by decide)) ?_)
  | (with_reducible refine wg_name (fun _ _ => trivial) ?_)
  | ((with_reducible refine' wg_tup ?hl ?_); (case hl => rfl))
  | (with_reducible refine wgs_cons rw_trans ?_)
  | (with_reducible refine wgs_nil rw_refl ?_)
  | (with_reducible refine wgs_cons (fun _ _ _ _ _ => trivial) ?_)
  | (with_reducible refine wgs_nil (fun _ => trivial) ?_))
local macro_rules | `(tactic| walk_at "go") => `(tactic| repeat' (first | walk_at "we1" | walk_at "wg1"))
section
variable {P : Program} {w : World} {K : PySem.W.Frag} {mg : Str → Option Value} {base : Heap}
/-! ### the law -/
theorem told_mem (T : Tb) (es : List Toy.Ev) : ∀ y ∈ toldF T es, ∃ e ∈ es, y.nm = e.nm ∧ y.ks.length = e.needs.length := by
  refine snoc_ind' (P := fun es => ∀ y ∈ toldF T es, ∃ e ∈ es, y.nm = e.nm ∧ y.ks.length = e.needs.length) (fun y h => nomatch h) (fun es e ih y hy => ?_) es
  rw [told_snoc] at hy
  rcases List.mem_append.mp hy with q | q
  · obtain ⟨e', h1, h2⟩ := ih y q
    exact ⟨e', List.mem_append_left _ h1, h2⟩
  · by_cases hr : rdy (walkF T es).1 e = true
    · rw [if_pos hr] at q
      cases hv : valT T e (keyV (walkF T es).1 e) with
      | none => rw [hv] at q; cases q
      | some u =>
        rw [hv] at q
        refine ⟨e, List.mem_append_right _ (List.mem_singleton.mpr rfl), ?_⟩
        rw [List.mem_singleton.mp q]
        exact ⟨rfl, List.length_map _⟩
    · rw [if_neg hr] at q; cases q
theorem told_len (T : Tb) (es : List Toy.Ev) : (toldF T es).length ≤ es.length := Nat.le_trans (List.length_filterMap_le _ _) (walkF_len T es).1
theorem fit_tup {E : List Ent} (h : ∀ e ∈ E, okE e) : fit (copyD E) = true := (fit_list fun d hd => by
  obtain ⟨e, he, rfl⟩ := List.mem_map.mp hd
  exact ⟨(h e he).1, Nat.le_trans (depth_E e) (by decide)⟩).2
/-- what is known of the tables -/
structure TInv (W : Wd) (es : List Toy.Ev) (T : Tb) (k : Nat) : Prop where
  nd : (T.map (·.1)).Nodup
  len : T.length ≤ 10 + k
  each : ∀ p ∈ T, p.2.length ≤ k ∧ ∀ x ∈ p.2, okE x ∧ x.v = ans W x.nm x.ks ∧ ∃ e ∈ es, x.nm = e.nm ∧ x.ks.length = e.needs.length
theorem TInv.at {W : Wd} {es : List Toy.Ev} {T : Tb} {k : Nat} (h : TInv W es T k) (a : Int) : ((atT T a).getD []).length ≤ k ∧ ∀ x ∈ (atT T a).getD [], okE x ∧ x.v = ans W x.nm x.ks ∧ ∃ e ∈ es, x.nm = e.nm ∧ x.ks.length = e.needs.length := by
  unfold atT
  cases q : T.find? (fun p => decide (p.1 = a)) with
  | none => exact ⟨Nat.zero_le _, fun _ h => nomatch h⟩
  | some p => exact h.each p (List.mem_of_find?_eq_some q)
theorem TInv.good {W : Wd} {es : List Toy.Ev} {T : Tb} {k : Nat} (h : TInv W es T k) (hk : k ≤ 900) : goodT T := fun p hp => ⟨Nat.le_trans (h.each p hp).1 hk, fun x hx => ((h.each p hp).2 x hx).1⟩
theorem TInv.true {W : Wd} {es : List Toy.Ev} {T : Tb} {k : Nat} (h : TInv W es T k) : TrueT W T := fun p hp x hx => ((h.each p hp).2 x hx).2.1
theorem TInv.put {W : Wd} {es : List Toy.Ev} {T : Tb} {k : Nat} (h : TInv W es T k) {a : Int} {x : Ent} (hx : okE x ∧ x.v = ans W x.nm x.ks ∧ ∃ e ∈ es, x.nm = e.nm ∧ x.ks.length = e.needs.length) : TInv W es (tput T a (putE ((atT T a).getD []) x)) (k + 1) := by
  refine ⟨tput_keys _ _ _ h.nd, by have := tput_len T a (putE ((atT T a).getD []) x); have := h.len; omega, fun p hp => ?_⟩
  rcases tput_mem hp with q | q
  · subst q
    have := h.at a
    refine ⟨by have := putE_len ((atT T a).getD []) x; show (putE ((atT T a).getD []) x).length ≤ _; omega, fun y hy => ?_⟩
    rcases putE_mem hy with z | z
    · exact this.2 y z
    · rw [z]; exact hx
  · have := h.each p q
    exact ⟨by omega, this.2⟩
theorem look_self {T : Tb} (nd : (T.map (·.1)).Nodup) {p : Int × List Ent} (hp : p ∈ T) : atT T p.1 = some p.2 := by
  induction T with
  | nil => cases hp
  | cons z T ih =>
    obtain ⟨h1, h2⟩ := List.nodup_cons.mp nd
    unfold atT
    rcases List.mem_cons.mp hp with q | q
    · subst q
      rw [List.find?_cons_of_pos (by simp)]; rfl
    · have : ¬ z.1 = p.1 := fun e => h1 (List.mem_map.mpr ⟨p, q, e.symm⟩)
      rw [List.find?_cons_of_neg (by simpa using this)]
      exact ih h2 q
def spLaw (K : PySem.W.Frag) : Sp := fun vs H Q _ => ∃ (a : Addr) (ns : List Int), vs = [.ref a] ∧ SqL K H a (ns.map V.int) ∧ ns.length ≤ 63 ∧ ∀ H', Q (.bl true) H'
abbrev S21 (P : Program) (w : World) (b CO CE : Addr) (en : Int) (es : List Toy.Ev) (W : Wd) (V : Str → Int) (tb x8 x9 x10 x11 x12 x13 x14 x15 x16 x17 x18 x19 x20 : SD) : List SD :=
  [.un, .val (.adr b), .val (.int en), .val (.lst (es.map evT)), .val (wD P w W), .val (ordD CO CE es), .val (.dct (trK V es)), tb, x8, x9, x10, x11, x12, x13, x14, x15, x16, x17, x18, x19, x20]
theorem goodEvs_fit {es : List Toy.Ev} (h : goodEvs es) : ∀ e ∈ es, fitEv e := fun e he => by
  obtain ⟨i, _, g⟩ := goodEvs_mem h he
  exact ⟨g.2.2.2.2.2.1, g.2.2.2.2.2.2.2.2.1⟩
/-- grown tables tell no less -/
theorem more_put {W : Wd} {es : List Toy.Ev} {T : Tb} {k : Nat} (h : TInv W es T k) {a : Int} {x : Ent} : ∀ a' nm ks v, findO ((atT T a').getD []) nm ks = some v → ∃ u, findO ((atT (tput T a (putE ((atT T a).getD []) x)) a').getD []) nm ks = some u := fun a' nm ks v hv => by
  rw [at_put]
  by_cases q : a' = a
  · rw [if_pos q]
    subst q
    obtain ⟨y, hy, e1, e2, _⟩ := findO_mem hv
    obtain ⟨u, hu⟩ := findO_some (putE_old' (x := x) hy)
    rw [e1, e2] at hu
    exact ⟨u, hu⟩
  · rw [if_neg q]; exact ⟨v, hv⟩
theorem tput_new {T : Tb} {a : Int} {E : List Ent} (h : a ∉ T.map (·.1)) : tput T a E = T ++ [(a, E)] := by
  unfold tput
  rw [if_neg]
  intro q
  obtain ⟨p, hp, hq⟩ := List.any_eq_true.mp q
  exact h (List.mem_map.mpr ⟨p, hp, of_decide_eq_true hq⟩)
def turnT (T : Tb) (ns : List Int) : Tb := ns.map fun a => (a, (atT T a).getD [])
theorem at_turn (T : Tb) (a : Int) : ∀ ns : List Int, atT (turnT T ns) a = if a ∈ ns then some ((atT T a).getD []) else none
  | [] => rfl
  | x :: ns => by
    have ih := at_turn T a ns
    unfold atT turnT at *
    rw [List.map_cons]
    by_cases q : x = a
    · subst q
      rw [List.find?_cons_of_pos (by simp), if_pos List.mem_cons_self]; rfl
    · rw [List.find?_cons_of_neg (by simpa using q), ih]
      have : (a ∈ x :: ns) ↔ a ∈ ns := by
        rw [List.mem_cons]
        exact ⟨fun h => h.resolve_left fun z => q z.symm, .inr⟩
      by_cases h : a ∈ ns
      · rw [if_pos h, if_pos (this.mpr h)]
      · rw [if_neg h, if_neg fun z => h (this.mp z)]
theorem at_none {T : Tb} {a : Int} (h : a ∉ T.map (·.1)) : atT T a = none := by
  unfold atT
  rw [List.find?_eq_none.mpr fun p hp => by
    simp only [decide_eq_true_eq]
    exact fun z => h (List.mem_map.mpr ⟨p, hp, z⟩)]
  rfl
theorem at_some {T : Tb} {a : Int} (h : a ∈ T.map (·.1)) : ∃ E, atT T a = some E := by
  obtain ⟨p, hp, rfl⟩ := List.mem_map.mp h
  unfold atT
  cases q : T.find? (fun z => decide (z.1 = p.1)) with
  | some z => exact ⟨z.2, rfl⟩
  | none => exact absurd (List.find?_eq_none.mp q p hp) (by simp)
theorem turn_all {T : Tb} {ns : List Int} (h : ns.Perm (T.map (·.1))) (a : Int) : atT (turnT T ns) a = atT T a := by
  rw [at_turn]
  by_cases q : a ∈ ns
  · rw [if_pos q]
    obtain ⟨E, hE⟩ := at_some (h.mem_iff.mp q)
    rw [hE]; rfl
  · rw [if_neg q, at_none fun z => q (h.mem_iff.mpr z)]
theorem noLst_ints : ∀ ks : List Int, noLstAll (ks.map D.int) = true
  | [] => rfl
  | k :: ks => by show (true && noLstAll (ks.map D.int)) = true; rw [noLst_ints ks]; rfl
theorem noLst_ent (x : Ent) : noLst (entD x) = true := by
  show (true && (noLstAll (x.ks.map D.int) && (true && true))) = true
  rw [noLst_ints]; rfl
theorem fit_tr (V : Str → Int) (e : Toy.Ev) : fit (trD V e) = true := (fit_list (ds := [.tup ((e.needs.map V).map .int), .int (V e.nm)]) fun d hd => by
  rcases List.mem_cons.mp hd with q | hd
  · subst q
    refine ⟨fit_ints _, ?_⟩
    show PyData.depthAll (dpyAll ((e.needs.map V).map D.int)) + 1 ≤ 60
    rw [dep_ints]; decide
  · rw [List.mem_singleton.mp hd]; exact ⟨rfl, Nat.zero_le _⟩).2
abbrev s_law : Stmt := top 39
abbrev N_law : List Str := ["script", "bag", "ends", "events", "world", "order", "truth", "tables", "end", "last", "turn", "entry", "elder", "grown", "handed", "told", "place", "altered", "held", "turned", "at"]
theorem sc_law : FnScope N_law ["script"] (defScope s_law) := ⟨rfl, rfl, rfl, by decide +kernel, rfl, by decide +kernel, by decide +kernel⟩

theorem ok_law {f : Addr} {fd : FuncData} (F : Fun K "law" "law" s_law f fd) (T : Txt mg) {CO CE : Addr} (D_law_bag : Dr P w K mg base "_law_bag" 1 ["script"] (spBag K)) (D_law_draw : Dn P w K mg base "_law_draw" 1 ["bag", "limit"] [] [] spDraw)
    (D_law_wide_order : Dn P w K mg base "_law_wide_order" 3 ["bag", "ends", "least", "most"] [] [] spWide) (D_law_made_world : Dn P w K mg base "_law_made_world" 3 ["bag", "events"] [] [] (spMade P w))
    (D_law_order_of : Dn P w K mg base "_law_order_of" 5 ["events"] [] [] (spOrderOf CO CE)) (D_law_true : Dn P w K mg base "_law_true" 2 ["events", "world"] [] [] (spTrue P w)) (D_law_grown : Dn P w K mg base "_law_grown" 3 ["bag", "events", "world", "tables"] [] [] (spGrown P w))
    (D_with_answer : Dn P w K mg base "with_answer" 2 ["table", "name", "key", "value"] [] [] spWith) (D_law_put : Dn P w K mg base "_law_put" 2 ["table", "entry"] [] [] spPut) (D_law_are_entries : Dn P w K mg base "_law_are_entries" 3 ["thing"] [] [] spEntries)
    (D_entry_value : Dn P w K mg base "entry_value" 1 ["table", "name", "key"] [] [] spFind) (D_play : Dn P w K mg base "play" 3 ["order", "tables"] [] [] (spPlayP CO CE)) (D_law_due_play : Dn P w K mg base "_law_due_play" 3 ["events", "tables"] [] [] spPlayL) : FnOk P w K mg base CX0 6 f fd ["script"] (spLaw K) := by
  refine F.ok sc_law (fun vs H Q E h => ?_) (fun cdv A outer s H vs Q E hr h => ?_)
  · obtain ⟨a, ns, rfl, _⟩ := h
    rfl
  · obtain ⟨a, ns, rfl, hS, hlen, k⟩ := h
    refine ⟨_, (pss_cons (ps_set (i := 1) sc_law.nd rfl (Or.inl rfl) (pe_call D_law_bag.G (hr.mono (by decide)) (by rfl) D_law_bag.m D_law_bag.k D_law_bag.b D_law_bag.v pass0 (pa_cons (pv 0) pa_nil)))
  (pss_cons (ps_set (i := 2) sc_law.nd rfl (Or.inl rfl) (pe_op (x_add K) pe_int (pe_call D_law_draw.G (hr.mono (by decide)) (by rfl) D_law_draw.m D_law_draw.k D_law_draw.b D_law_draw.v pass0 (pa_cons (pv 1) (pa_cons pe_int pa_nil)))))
  (pss_cons (ps_set (i := 3) sc_law.nd rfl (Or.inl rfl) (pe_call D_law_wide_order.G (hr.mono (by decide)) (by rfl) D_law_wide_order.m D_law_wide_order.k D_law_wide_order.b D_law_wide_order.v pass0 (pa_cons (pv 1) (pa_cons (pv 2) (pa_cons pe_int (pa_cons pe_int pa_nil))))))
  (pss_cons (ps_set (i := 4) sc_law.nd rfl (Or.inl rfl) (pe_call D_law_made_world.G (hr.mono (by decide)) (by rfl) D_law_made_world.m D_law_made_world.k D_law_made_world.b D_law_made_world.v pass0 (pa_cons (pv 1) (pa_cons (pv 3) pa_nil))))
  (pss_cons (ps_set (i := 5) sc_law.nd rfl (Or.inl rfl) (pe_call D_law_order_of.G (hr.mono (by decide)) (by rfl) D_law_order_of.m D_law_order_of.k D_law_order_of.b D_law_order_of.v pass0 (pa_cons (pv 3) pa_nil)))
  (pss_cons (ps_set (i := 6) sc_law.nd rfl (Or.inl rfl) (pe_call D_law_true.G (hr.mono (by decide)) (by rfl) D_law_true.m D_law_true.k D_law_true.b D_law_true.v pass0 (pa_cons (pv 3) (pa_cons (pv 4) pa_nil))))
  (pss_cons (ps_set (i := 7) sc_law.nd rfl (Or.inl rfl) pe_dnewK)
  (pss_cons (ps_for PassesOwn.never rfl (pi_range2 (by rfl) T.b_range (pa_cons pe_int (pa_cons (pe_op (x_add K) (pv 2) pe_int) pa_nil))) (pg_name (i := 8) sc_law.nd rfl (Or.inl rfl)) (pss_one (ps_if (pt_cmpR (x_eq K (by exact hr.units)) (pe_call D_law_draw.G (hr.mono (by decide)) (by rfl) D_law_draw.m D_law_draw.k D_law_draw.b D_law_draw.v pass0 (pa_cons (pv 1) (pa_cons pe_int pa_nil))) pe_int (nomark _)) (pss_one (ps_dput (by exact hu1 hr) (pv 7) (pv 8) (pe_tup pa_nil) rfl)) pss_nil)))
  (pss_cons (ps_set (i := 9) sc_law.nd rfl (Or.inl rfl) (pe_tup pa_nil))
  (pss_cons (ps_for PassesOwn.never rfl (pi_range1 (by rfl) T.b_range (pa_cons (pe_op (x_add K) pe_int (pe_call D_law_draw.G (hr.mono (by decide)) (by rfl) D_law_draw.m D_law_draw.k D_law_draw.b D_law_draw.v pass0 (pa_cons (pv 1) (pa_cons pe_int pa_nil)))) pa_nil)) (pg_name (i := 10) sc_law.nd rfl (Or.inl rfl)) (pss_cons (ps_asg (pe_call D_law_grown.G (hr.mono (by decide)) (by rfl) D_law_grown.m D_law_grown.k D_law_grown.b D_law_grown.v pass0 (pa_cons (pv 1) (pa_cons (pv 3) (pa_cons (pv 4) (pa_cons (pv 7) pa_nil))))) (x_tgt K (pg_tup (by rfl) (pgs_cons (pg_name (i := 8) sc_law.nd rfl (Or.inl rfl)) (pgs_cons (pg_name (i := 11) sc_law.nd rfl (Or.inl rfl)) pgs_nil)))))
  (pss_cons (ps_set (i := 12) sc_law.nd rfl (Or.inl rfl) (pe_ifExp (pt_cmp (pc_din (by exact hu1 hr) (pv 8) (pv 7))) (pe_dget (by exact hu1 hr) (pv 7) (pv 8) (fun _ _ => rfl)) (pe_tup pa_nil)))
  (pss_cons (ps_set (i := 13) sc_law.nd rfl (Or.inl rfl) (pe_call D_with_answer.G (hr.mono (by decide)) (by rfl) D_with_answer.m D_with_answer.k D_with_answer.b D_with_answer.v pass0 (pa_cons (pv 12) (pa_cons (pe_ix (x_ix K) (pv 11) pe_int (fun _ _ => rfl)) (pa_cons (pe_ix (x_ix K) (pv 11) pe_int (fun _ _ => rfl)) (pa_cons (pe_ix (x_ix K) (pv 11) pe_int (fun _ _ => rfl)) pa_nil))))))
  (pss_cons (ps_if (PW.pt (pw_or (pt_cmpR (x_ne K (by exact hr.units)) (pv 13) (pe_call D_law_put.G (hr.mono (by decide)) (by rfl) D_law_put.m D_law_put.k D_law_put.b D_law_put.v pass0 (pa_cons (pv 12) (pa_cons (pv 11) pa_nil))) (nomark _)) (pw_or1 (pt_not (pt_val (pe_call D_law_are_entries.G (hr.mono (by decide)) (by rfl) D_law_are_entries.m D_law_are_entries.k D_law_are_entries.b D_law_are_entries.v pass0 (pa_cons (pv 13) pa_nil))))))) (pss_one (ps_ret pe_bl)) pss_nil)
  (pss_cons (ps_if (PW.pt (pw_or (pt_cmpR (x_ne K (by exact hr.units)) (pe_call D_entry_value.G (hr.mono (by decide)) (by rfl) D_entry_value.m D_entry_value.k D_entry_value.b D_entry_value.v pass0 (pa_cons (pv 13) (pa_cons (pe_ix (x_ix K) (pv 11) pe_int (fun _ _ => rfl)) (pa_cons (pe_ix (x_ix K) (pv 11) pe_int (fun _ _ => rfl)) pa_nil)))) (pe_ix (x_ix K) (pv 11) pe_int (fun _ _ => rfl)) (nomark _)) (pw_or1 (pt_cmpR op_notN1 (pe_call D_entry_value.G (hr.mono (by decide)) (by rfl) D_entry_value.m D_entry_value.k D_entry_value.b D_entry_value.v pass0 (pa_cons (pv 13) (pa_cons (pe_ix (x_ix K) (pv 11) pe_int (fun _ _ => rfl)) (pa_cons (pe_op (x_add K) (pe_ix (x_ix K) (pv 11) pe_int (fun _ _ => rfl)) (pe_tup (pa_cons pe_int pa_nil))) pa_nil)))) pe_non (nomark _))))) (pss_one (ps_ret pe_bl)) pss_nil)
  (pss_cons (ps_dput (by exact hu1 hr) (pv 7) (pv 8) (pv 13) rfl)
  (pss_cons (ps_set (i := 14) sc_law.nd rfl (Or.inl rfl) (pe_callTy (x_dict K) (by rfl) T.b_dict (by decide +kernel) (pa_cons (pv 7) pa_nil)))
  (pss_cons (ps_set (i := 15) sc_law.nd rfl (Or.inr rfl) (pe_call D_play.G (hr.mono (by decide)) (by rfl) D_play.m D_play.k D_play.b D_play.v pass0 (pa_cons (pv 5) (pa_cons (pv 14) pa_nil))))
  (pss_cons (ps_if (PW.pt (pw_or (pt_not (pt_val (pe_call D_law_are_entries.G (hr.mono (by decide)) (by rfl) D_law_are_entries.m D_law_are_entries.k D_law_are_entries.b D_law_are_entries.v pass0 (pa_cons (pv 15) pa_nil)))) (pw_or (pt_cmpR (x_neK K (by exact hu65 hr)) (pv 14) (pv 7) (nomark _)) (pw_or1 (pt_cmpR (x_ne K (by exact hr.units)) (pv 15) (pe_call D_law_due_play.G (hr.mono (by decide)) (by rfl) D_law_due_play.m D_law_due_play.k D_law_due_play.b D_law_due_play.v pass0 (pa_cons (pv 3) (pa_cons (pv 7) pa_nil))) (nomark _)))))) (pss_one (ps_ret pe_bl)) pss_nil)
  (pss_cons (ps_for PassesOwn.never rfl (x_seq K (pv 15)) (pg_name (i := 11) sc_law.nd rfl (Or.inl rfl)) (pss_one (ps_if (pt_cmpR (x_ne K (by exact hr.units)) (pe_tup (pa_cons (pe_ix (x_ix K) (pv 11) pe_int (fun _ _ => rfl)) (pa_cons (pe_ix (x_ix K) (pv 11) pe_int (fun _ _ => rfl)) pa_nil))) (pe_dget (by exact hu1 hr) (pv 6) (pe_ix (x_ix K) (pv 11) pe_int (fun _ _ => rfl)) (fun _ _ => rfl)) (nomark _)) (pss_one (ps_ret pe_bl)) pss_nil)))
  (pss_cons (ps_if (pt_cmpR op_gt (pe_callB (x_len K) (by rfl) T.b_len (by decide +kernel) (pa_cons (pe_lc (own := [("entry", 11)]) (g := gName 11) rfl sc_law.nd (x_seq K (pv 9)) (blkOk_by (own := [("entry", 11)]) (N := N_law) (sc := defScope s_law) (by decide +kernel)) (fun _ _ _ _ _ => (pg_name (i := 11) sc_law.nd rfl (Or.inl rfl))) (fun _ _ _ _ _ => (pts_one (pt_cmpR (x_notIn K (by exact hu65 hr)) (pv 11) (pv 15) (by with_unfolding_all rfl)))) (fun _ _ _ _ _ => (pv 11))) pa_nil)) pe_int (nomark _)) (pss_one (ps_ret pe_bl)) pss_nil)
  (pss_one (ps_set (i := 9) sc_law.nd rfl (Or.inl rfl) (pv 15)))))))))))))))
  (pss_cons (ps_if (pt_cmpR (x_ne K (by exact hr.units)) (pe_call D_with_answer.G (hr.mono (by decide)) (by rfl) D_with_answer.m D_with_answer.k D_with_answer.b D_with_answer.v pass0 (pa_cons (pe_dget (by exact hu1 hr) (pv 7) (pv 8) (fun _ _ => rfl)) (pa_cons pe_str (pa_cons (pe_tup pa_nil) (pa_cons pe_int pa_nil))))) (pe_callTy (x_tup K) (by rfl) T.b_tuple (by decide +kernel) (pa_cons (pe_callB (x_sorted K (by exact hr.units)) (by rfl) T.b_sorted (by decide +kernel) (pa_cons (pe_op (x_add K) (pe_callTy (x_list K) (by rfl) T.b_list (by decide +kernel) (pa_cons (pe_dget (by exact hu1 hr) (pv 7) (pv 8) (fun _ _ => rfl)) pa_nil)) (pe_lst (pa_cons (pe_tup (pa_cons pe_str (pa_cons (pe_tup pa_nil) (pa_cons pe_int pa_nil)))) pa_nil))) pa_nil)) pa_nil)) (nomark _)) (pss_one (ps_ret pe_bl)) pss_nil)
  (pss_cons (ps_set (i := 16) sc_law.nd rfl (Or.inl rfl) (pe_call D_law_draw.G (hr.mono (by decide)) (by rfl) D_law_draw.m D_law_draw.k D_law_draw.b D_law_draw.v pass0 (pa_cons (pv 1) (pa_cons (pe_callB (x_len K) (by rfl) T.b_len (by decide +kernel) (pa_cons (pe_dget (by exact hu1 hr) (pv 7) (pv 8) (fun _ _ => rfl)) pa_nil)) pa_nil))))
  (pss_cons (ps_set (i := 17) sc_law.nd rfl (Or.inl rfl) (pe_callTy (x_list K) (by rfl) T.b_list (by decide +kernel) (pa_cons (pe_dget (by exact hu1 hr) (pv 7) (pv 8) (fun _ _ => rfl)) pa_nil)))
  (pss_cons (ps_asg (pe_tup (pa_cons (pe_ix (x_ix K) (pe_ix (x_ix K) (pv 17) (pv 16) (fun _ _ => rfl)) pe_int (fun _ _ => rfl)) (pa_cons (pe_ix (x_ix K) (pe_ix (x_ix K) (pv 17) (pv 16) (fun _ _ => rfl)) pe_int (fun _ _ => rfl)) (pa_cons (pe_op (x_add K) (pe_op (x_add K) (pe_ix (x_ix K) (pe_ix (x_ix K) (pv 17) (pv 16) (fun _ _ => rfl)) pe_int (fun _ _ => rfl)) pe_int) (pe_call D_law_draw.G (hr.mono (by decide)) (by rfl) D_law_draw.m D_law_draw.k D_law_draw.b D_law_draw.v pass0 (pa_cons (pv 1) (pa_cons pe_int pa_nil)))) pa_nil)))) (pg_sub (pv 17) (pv 16) set_list))
  (pss_cons (ps_set (i := 18) sc_law.nd rfl (Or.inl rfl) (pe_ix (x_ix K) (pv 17) (pv 16) (fun _ _ => rfl)))
  (pss_cons (ps_if (pt_cmpR (x_ne K (by exact hr.units)) (pe_call D_with_answer.G (hr.mono (by decide)) (by rfl) D_with_answer.m D_with_answer.k D_with_answer.b D_with_answer.v pass0 (pa_cons (pe_callTy (x_tup K) (by rfl) T.b_tuple (by decide +kernel) (pa_cons (pv 17) pa_nil)) (pa_cons (pe_ix (x_ix K) (pv 18) pe_int (fun _ _ => rfl)) (pa_cons (pe_ix (x_ix K) (pv 18) pe_int (fun _ _ => rfl)) (pa_cons (pe_op op_sub (pe_ix (x_ix K) (pv 18) pe_int (fun _ _ => rfl)) pe_int) pa_nil))))) (pe_callTy (x_tup K) (by rfl) T.b_tuple (by decide +kernel) (pa_cons (pv 17) pa_nil)) (nomark _)) (pss_one (ps_ret pe_bl)) pss_nil)
  (pss_cons (ps_dput (by exact hu1 hr) (pv 7) (pv 8) (pe_callTy (x_tup K) (by rfl) T.b_tuple (by decide +kernel) (pa_cons (pv 17) pa_nil)) rfl)
  (pss_cons (ps_set (i := 19) sc_law.nd rfl (Or.inl rfl) pe_dnewK)
  (pss_cons (ps_for PassesOwn.never rfl (x_seq K (pe_callBK (x_sortKR K) (by rfl) T.b_sorted (by decide +kernel) (pa_cons (pv 7) pa_nil) (pk_cons pe_bl pk_nil))) (pg_name (i := 20) sc_law.nd rfl (Or.inl rfl)) (pss_one (ps_dput (by exact hu1 hr) (pv 19) (pv 20) (pe_dget (by exact hu1 hr) (pv 7) (pv 20) (fun _ _ => rfl)) rfl)))
  (pss_one (ps_ret (pe_and (pe_cmpR (x_eq K (by exact hr.units)) (pe_call D_play.G (hr.mono (by decide)) (by rfl) D_play.m D_play.k D_play.b D_play.v pass0 (pa_cons (pv 5) (pa_cons (pv 19) pa_nil))) (pe_call D_law_due_play.G (hr.mono (by decide)) (by rfl) D_law_due_play.m D_law_due_play.k D_law_due_play.b D_law_due_play.v pass0 (pa_cons (pv 3) (pa_cons (pv 7) pa_nil))) (nomark _)) (pe_one (pe_cmpR (x_eq K (by exact hr.units)) (pe_call D_play.G (hr.mono (by decide)) (by rfl) D_play.m D_play.k D_play.b D_play.v pass0 (pa_cons (pv 5) (pa_cons pe_dnewK pa_nil))) (pe_tup pa_nil) (nomark _))))))))))))))))))))))))), ?_⟩
    refine st_seq ?_
    refine ⟨_, rfl, a, ns, rfl, hS, hlen, fun b q bs H1 nqb g1 g2 g3 g4 g5 => ?_⟩
    refine gN_go ?_
    dsimp only
    refine' (?W : WS ⟨P, w, K, [q, b], some (b, q), H1⟩ _ [.un, .val (.adr b), .un, .un, .un, .un, .un, .un, .un, .un, .un, .un, .un, .un, .un, .un, .un, .un, .un, .un, .un] 0 { nx := fun _ _ => False, rt := fun _ d => d = .bl true }) (fun _ => none) [] _ H1 _ ?E1 ?A1
    case E1 =>
      exact { nd := List.nodup_nil, fresh := (fun l hl => nomatch hl), slots := ⟨[], .un (.val (.adr b) (slots_un 19)), List.Sublist.refl _⟩, lst := (fun l hl => nomatch hl), bag := (fun b' q' e => by cases e; exact ⟨0, 0, bs, g1, g2, g3, g4, g5, Int.le_refl _, Int.le_refl _, Int.le_refl _⟩), base := Same.refl _,
              pers := (fun _ _ e => nomatch e), bO := (fun b' q' e => by cases e; exact ⟨List.mem_cons_of_mem _ List.mem_cons_self, List.mem_cons_self, nqb⟩),
              al := fun o ho => by
                rcases List.mem_cons.mp ho with e | e
                · rw [e, g2]; exact fun z => nomatch z
                · rw [List.mem_singleton.mp e, g1]; exact fun z => nomatch z }
    case A1 =>
      exact { nx := fun _ _ _ _ _ _ h => h.elim, rt := fun v d n H' _ _ r e => by subst e; cases r; exact k H', bk := fun _ _ _ _ _ _ h => h.elim, ct := fun _ _ _ _ _ _ h => h.elim }
    case W =>
      clear g1 g2 g3 g4 g5 hS hlen k
      -- ends, events, world
      refine ws_cut (fun n1 ρ1 => n1 ≤ 1 ∧ ∃ en : Int, 1 ≤ en ∧ en ≤ 4 ∧ ρ1 = [.un, .val (.adr b), .val (.int en), .un, .un, .un, .un, .un, .un, .un, .un, .un, .un, .un, .un, .un, .un, .un, .un, .un, .un]) ?_ ?_
      · walk_at "ws1"
        walk_at "go"
        refine ⟨b, q, 4, rfl, rfl, by decide, by decide, by decide, fun r h0 h4 => ?_⟩
        walk_at "go"
        exact ⟨by decide, 1 + r, by omega, by omega, rfl⟩
      rintro n1 ρ1 ⟨hn1, en, he1, he4, rfl⟩
      refine ws_cut (fun n2 ρ1 => n2 ≤ 210 ∧ ∃ es : List Toy.Ev, OrdO en 3 es ∧ 1 ≤ es.length ∧ ρ1 = [.un, .val (.adr b), .val (.int en), .val (.lst (es.map evT)), .un, .un, .un, .un, .un, .un, .un, .un, .un, .un, .un, .un, .un, .un, .un, .un, .un]) ?_ ?_
      · walk_at "ws1"
        walk_at "go"
        refine ⟨b, q, en, 1, 7, rfl, rfl, he1, by omega, by decide, by decide, by decide, by omega, fun es n' h1 h2 h3 h4 => ?_⟩
        exact ⟨by omega, es, h1, h2, rfl⟩
      rintro n2 ρ1 ⟨hn2, es, ho, hes, rfl⟩
      have hg : goodEvs es := ho.good (by omega)
      refine ws_cut (fun n3 ρ1 => n3 ≤ 250 ∧ ∃ W : Wd, okW W ∧ ρ1 = [.un, .val (.adr b), .val (.int en), .val (.lst (es.map evT)), .val (wD P w W), .un, .un, .un, .un, .un, .un, .un, .un, .un, .un, .un, .un, .un, .un, .un, .un]) ?_ ?_
      · walk_at "ws1"
        walk_at "go"
        refine ⟨b, q, es, rfl, rfl, hg, by omega, fun W n' h1 h2 => ?_⟩
        exact ⟨by omega, W, h1, rfl⟩
      rintro n3 ρ1 ⟨hn3, W, hW, rfl⟩
      obtain ⟨V, hV, hb⟩ := exists_V' hW hg
      -- order, truth, tables
      walk_at "ws1"
      walk_at "ws1"
      walk_at "go"
      refine ⟨hg, ?_⟩
      walk_at "ws1"
      walk_at "ws1"
      walk_at "go"
      refine ⟨es, W, V, rfl, hg, hW, hV, hb, ?_⟩
      walk_at "ws1"
      refine ws_knew (i := 7) (Nat.le_of_ble_eq_true rfl) ?_
      show WS _ _ (S21 P w b CO CE en es W V (.dk (tbD [])) .un .un .un .un .un .un .un .un .un .un .un .un .un) n3 _
      refine ws_cut (fun n4 ρ1 => n4 ≤ 260 ∧ ∃ (T : Tb) (x8 : SD), TInv W es T 0 ∧ ρ1 = S21 P w b CO CE en es W V (.dk (tbD T)) x8 .un .un .un .un .un .un .un .un .un .un .un .un) ?_ ?_
      · refine ws_for ?_
        walk_at "go"
        refine ⟨1, en + 1, rfl, by omega, ?_⟩
        have hcn : (en + 1 - 1).toNat ≤ 4 := by omega
        refine ⟨fun i m ρ => m ≤ 250 + i ∧ ∃ (T : Tb) (x8 : SD), T.length ≤ i ∧ TInv W es T 0 ∧ ρ = S21 P w b CO CE en es W V (.dk (tbD T)) x8 .un .un .un .un .un .un .un .un .un .un .un .un, ⟨by omega, [], .un, Nat.le_refl _, ⟨List.nodup_nil, Nat.zero_le _, (fun p hp => nomatch hp)⟩, rfl⟩, ?_, ?_⟩
        · rintro i m ρ1 d hd ⟨hm, Tb0, x8, hT1, hT2, rfl⟩
          obtain ⟨hi, rfl⟩ := rangeD_get hd
          walk_at "wg1"
          refine ws_if ?_
          walk_at "go"
          refine ⟨b, q, 2, rfl, rfl, by decide, by decide, by omega, fun r h0 h4 => ?_⟩
          walk_at "go"
          refine dec2 (fun h1 => ?_) (fun h1 => ?_)
          · refine ws_kput (i := 7) (kvs := tbD Tb0) rfl (by unfold tbD; rw [List.length_map]; omega) ?_
            walk_at "go"
            refine ⟨Nat.zero_le _, ?_⟩
            walk_at "go"
            have hp : putKD (tbD Tb0) (.inl (1 + (i : Int))) (.tup []) = tbD (tput Tb0 (1 + (i : Int)) []) := put_tb Tb0 _ []
            refine ⟨by omega, tput Tb0 (1 + (i : Int)) [], .val (.int (1 + (i : Int))), Nat.le_trans (tput_len _ _ _) (by omega), ⟨tput_keys _ _ _ hT2.nd, Nat.le_trans (tput_len _ _ _) (by omega), fun p hp => ?_⟩, ?_⟩
            · rcases tput_mem hp with z | z
              · subst z; exact ⟨Nat.zero_le _, fun x hx => nomatch hx⟩
              · exact hT2.each p z
            · rw [← hp]; rfl
          · walk_at "ws1"
            exact ⟨by omega, Tb0, .val (.int (1 + (i : Int))), by omega, hT2, rfl⟩
        · rintro m ρ1 ⟨hm, Tb0, x8, hT1, hT2, rfl⟩
          rw [rangeD_len] at hm
          exact ⟨by omega, Tb0, x8, hT2, rfl⟩
      rintro n4 ρ1 ⟨hn4, T0, x8, hT0, rfl⟩
      walk_at "ws1"
      walk_at "ws1"
      walk_at "go"
      refine ⟨Nat.zero_le _, ?_⟩
      show WS _ _ (S21 P w b CO CE en es W V (.dk (tbD T0)) x8 (.val (copyD [])) .un .un .un .un .un .un .un .un .un .un .un) n4 _
      have hfe := goodEvs_fit hg
      have h12 := hg.1
      refine ws_cut (fun n5 ρ1 => n5 ≤ 1000 ∧ ∃ (T : Tb) (a : Int) (E : List Ent) (x9 x10 x11 x12 x13 x14 x15 : SD), TInv W es T 12 ∧ atT T a = some E ∧ E ≠ [] ∧ ρ1 = S21 P w b CO CE en es W V (.dk (tbD T)) (.val (.int a)) x9 x10 x11 x12 x13 x14 x15 .un .un .un .un .un) ?_ ?_
      · refine ws_for ?_
        walk_at "go"
        refine ⟨b, q, 9, rfl, rfl, by decide, by decide, by omega, fun r h0 h4 => ?_⟩
        walk_at "go"
        obtain ⟨c, hc⟩ : ∃ c : Nat, (4 : Int) + r = (c : Int) := ⟨((4 : Int) + r).toNat, by omega⟩
        rw [hc]
        refine ⟨by omega, by omega, ?_⟩
        have hcn : ((c : Nat) : Int).toNat = c := by omega
        rw [hcn]
        refine ⟨fun i m ρ => m ≤ n4 + 1 + 20 * i ∧ ∃ (T : Tb) (L : List Ent) (x8 x10 x11 x12 x13 x14 x15 : SD), TInv W es T i ∧ (L.length ≤ 12 ∧ ∀ y ∈ L, y ∈ toldF T es) ∧ (0 < i → ∃ (a : Int) (E : List Ent), x8 = .val (.int a) ∧ atT T a = some E ∧ E ≠ []) ∧ ρ = S21 P w b CO CE en es W V (.dk (tbD T)) x8 (.val (copyD L)) x10 x11 x12 x13 x14 x15 .un .un .un .un .un,
          ⟨Nat.le_refl _, T0, [], x8, .un, .un, .un, .un, .un, .un, hT0, ⟨Nat.zero_le _, fun y hy => nomatch hy⟩, (fun h => absurd h (Nat.lt_irrefl 0)), rfl⟩, ?_, ?_⟩
        · rintro i m ρ1 d hd ⟨hm, Tb0, L, x8, x10, x11, x12, x13, x14, x15, hT, ⟨hLl, hL⟩, -, rfl⟩
          obtain ⟨hi, rfl⟩ := rangeD_get hd
          walk_at "wg1"
          -- end, entry
          refine ws_cut (fun n1 ρ1 => n1 ≤ m + 10 ∧ ∃ e ∈ es, ∃ x : Ent, okE x ∧ x.v = ans W x.nm x.ks ∧ x.nm = e.nm ∧ x.ks.length = e.needs.length ∧ ρ1 = S21 P w b CO CE en es W V (.dk (tbD Tb0)) (.val (.int e.at_)) (.val (copyD L)) (.val (.int (0 + (i : Int)))) (.val (entD x)) x12 x13 x14 x15 .un .un .un .un .un) ?_ ?_
          · walk_at "ws1"
            refine we_lookKp 7 rfl ?_
            walk_at "go"
            refine ⟨b, q, es, W, V, _, rfl, rfl, hg, by omega, hW, hV, hb, by omega, fun e he ks n' h1 h2 => ?_⟩
            have okx : okE ⟨e.nm, ks, ans W e.nm ks⟩ := ok_of (hfe e he).2 ks _
            refine ⟨?_, ?_⟩
            · show (true && (plain (entD ⟨e.nm, ks, ans W e.nm ks⟩) && true)) = true
              rw [fit_p okx.1]; rfl
            walk_at "go"
            exact ⟨h2, e, he, ⟨e.nm, ks, ans W e.nm ks⟩, okx, rfl, rfl, h1, rfl⟩
          rintro n1 ρ1 ⟨hn1, e, he, x, okx, hxv, hxn, hxk, rfl⟩
          have hxin : okE x ∧ x.v = ans W x.nm x.ks ∧ ∃ e ∈ es, x.nm = e.nm ∧ x.ks.length = e.needs.length := ⟨okx, hxv, e, he, hxn, hxk⟩
          have hE0 := hT.at e.at_
          have hT' := hT.put (a := e.at_) hxin
          have hmore := more_put hT (a := e.at_) (x := x)
          generalize hE : (atT Tb0 e.at_).getD [] = E0 at hE0 hT' hmore
          have okE0 : ∀ y ∈ E0, okE y := fun y hy => (hE0.2 y hy).1
          have hGm : ∀ y ∈ putE E0 x, okE y ∧ y.v = ans W y.nm y.ks ∧ ∃ e ∈ es, y.nm = e.nm ∧ y.ks.length = e.needs.length := fun y hy => by
            rcases putE_mem hy with z | z
            · exact hE0.2 y z
            · rw [z]; exact hxin
          have hGl := putE_len E0 x
          have hnl : ∀ e ∈ es, e.needs.length ≤ 3 := fun e he => (hfe e he).1
          -- elder
          walk_at "ws1"
          refine ws_set (WE.mono (Φ := fun m d => m = n1 ∧ d = copyD E0) ?_ ?_)
          · refine we_if (wt_lookK 7 rfl ?_)
            walk_at "we1"
            refine we_din ?_
            walk_at "go"
            refine ⟨_, _, rfl, rfl, _, rfl, ?_⟩
            rw [look_tb]
            cases hq : atT Tb0 e.at_ with
            | none =>
              refine itF rfl ?_
              walk_at "go"
              rw [hq] at hE
              subst hE
              exact ⟨Nat.zero_le _, rfl, rfl⟩
            | some E1 =>
              refine itT rfl ?_
              refine we_kget (i := 7) (kvs := tbD Tb0) rfl ?_
              walk_at "go"
              refine ⟨copyD E1, by rw [look_tb, hq]; rfl, rfl, ?_⟩
              rw [hq] at hE
              rw [← hE]; rfl
          rintro _ _ ⟨rfl, rfl⟩
          -- grown
          walk_at "ws1"
          walk_at "ws1"
          walk_at "go"
          refine ⟨E0, x, rfl, by omega, okE0, okx, ?_⟩
          generalize hG : putE E0 x = G at hGm hGl hT' hmore
          have okG : ∀ y ∈ G, okE y := fun y hy => (hGm y hy).1
          have trG : TrueE W G := fun y hy => (hGm y hy).2.1
          show WS _ _ (S21 P w b CO CE en es W V (.dk (tbD Tb0)) (.val (.int e.at_)) (.val (copyD L)) (.val (.int (0 + (i : Int)))) (.val (entD x)) (.val (copyD E0)) (.val (copyD G)) x14 x15 .un .un .un .un .un) _ _
          walk_at "ws1"
          refine ws_if ?_
          walk_at "go"
          refine ⟨E0, x, rfl, by omega, okE0, okx, ?_⟩
          rw [hG]
          refine r2_neD (fit_tup okG) (fit_tup okG) ?_
          have eqG : eqD (copyD G) (.tup (G.map entD)) = true := L3.eq_self (fit_tup okG)
          rw [eqG]
          refine ⟨_, rfl, itF rfl ?_⟩
          walk_at "go"
          have hGk : ∀ y ∈ G, y.ks.length ≤ 1000 := fun y hy => by
            obtain ⟨_, _, e', he', _, h2⟩ := hGm y hy
            have := hnl e' he'
            omega
          refine ⟨by omega, hGk, _, rfl, itF rfl ?_⟩
          walk_at "ws1"
          walk_at "ws1"
          refine ws_if ?_
          walk_at "go"
          refine ⟨G, x.nm, x.ks, rfl, by omega, okG, ok_nm okx, ?_⟩
          have f1 : findO G x.nm x.ks = some x.v := by rw [← hG]; exact putE_find (fun y hy => (hE0.2 y hy).2.1) hxv
          rw [findE_O, f1]
          show WE _ _ _ _ _
          walk_at "go"
          refine r2_neI ?_
          rw [decide_eq_true (rfl : x.v = x.v)]
          refine ⟨_, rfl, itF rfl ?_⟩
          walk_at "go"
          refine ⟨Nat.le_of_ble_eq_true rfl, r2_catT (by rw [List.length_map]; show _ + 1 ≤ _; have := hGk; have := hnl e he; omega) ?_⟩
          have ek : x.ks.map D.int ++ [.int 0] = (x.ks ++ [0]).map .int := by rw [List.map_append]; rfl
          rw [ek]
          have f2 : findO G x.nm (x.ks ++ [0]) = none := by
            cases h : findO G x.nm (x.ks ++ [0]) with
            | none => rfl
            | some v =>
              obtain ⟨y, hy, e1, e2, _⟩ := findO_mem h
              obtain ⟨_, _, e', he', h1, h2⟩ := hGm y hy
              have ee := goodEvs_inj hg he' he (by rw [← h1, e1, hxn])
              subst ee
              rw [e2, List.length_append, hxk] at h2
              have : ([0] : List Int).length = 1 := rfl
              omega
          refine wa_nil ?_
          refine ⟨G, x.nm, x.ks ++ [0], rfl, by omega, okG, ok_nm okx, ?_⟩
          rw [findE_O, f2]
          walk_at "go"
          refine itF rfl ?_
          walk_at "ws1"
          walk_at "ws1"
          -- tables[end] = grown
          refine ws_kput (i := 7) (kvs := tbD Tb0) rfl (by unfold tbD; rw [List.length_map]; have := hT.len; omega) ?_
          walk_at "go"
          have ep : putKD (tbD Tb0) (.inl e.at_) (copyD G) = tbD (tput Tb0 e.at_ G) := put_tb _ _ _
          rw [ep]
          have hat : atT (tput Tb0 e.at_ G) e.at_ = some G := by rw [at_put, if_pos rfl]
          have hGne : G ≠ [] := fun z => by rw [z] at f1; cases f1
          generalize tput Tb0 e.at_ G = T1 at hT' hmore hat
          have gT1 : goodT T1 := hT'.good (by omega)
          walk_at "ws1"
          refine ws_set (we_kcopy (i := 7) (kvs := tbD T1) rfl ?_)
          show WS _ _ (S21 P w b CO CE en es W V (.dk (tbD T1)) (.val (.int e.at_)) (.val (copyD L)) (.val (.int (0 + (i : Int)))) (.val (entD x)) (.val (copyD E0)) (.val (copyD G)) (.val (.dct (tbD T1))) x15 .un .un .un .un .un) _ _
          walk_at "ws1"
          walk_at "ws1"
          walk_at "go"
          refine ⟨es, T1, rfl, h12, hfe, gT1, ?_⟩
          have wt := walk_true hT'.true es hV
          have wm := walk_more hT.true hT'.true hmore es hV
          have hA : ∀ y ∈ toldF T1 es, okE y := fun y hy => by
            obtain ⟨e', he', h1, _⟩ := told_mem T1 es y hy
            obtain ⟨yn, yk, yv⟩ := y
            have h1' : yn = e'.nm := h1
            subst h1'
            exact ok_of (hfe e' he').2 _ _
          have hAk : ∀ y ∈ toldF T1 es, y.ks.length ≤ 1000 := fun y hy => by
            obtain ⟨e', he', _, h2⟩ := told_mem T1 es y hy
            have := hnl e' he'
            omega
          have hAl := told_len T1 es
          have hL' : ∀ y ∈ L, y ∈ toldF T1 es := fun y hy => wm.2 y (hL y hy)
          generalize hAe : toldF T1 es = A1 at hA hAk hAl hL' wt
          have eqA : eqD (copyD A1) (copyD A1) = true := L3.eq_self (fit_tup hA)
          show WS _ _ (S21 P w b CO CE en es W V (.dk (tbD T1)) (.val (.int e.at_)) (.val (copyD L)) (.val (.int (0 + (i : Int)))) (.val (entD x)) (.val (copyD E0)) (.val (copyD G)) (.val (.dct (tbD T1))) (.val (copyD A1)) .un .un .un .un .un) _ _
          walk_at "ws1"
          refine ws_if (wt_lookK 7 rfl ?_)
          walk_at "go"
          refine ⟨by omega, hAk, _, rfl, itF rfl ?_⟩
          walk_at "go"
          refine r2_eqK rfl (fun kv hkv => ?_) ?_
          · obtain ⟨p, hp, rfl⟩ := List.mem_map.mp hkv
            refine ⟨copyD p.2, by rw [look_tb, look_self hT'.nd hp]; rfl, fit_tup fun y hy => (hT'.each p hp).2 y hy |>.1, fit_tup fun y hy => (hT'.each p hp).2 y hy |>.1, L3.eq_self (fit_tup fun y hy => (hT'.each p hp).2 y hy |>.1)⟩
          refine ⟨_, rfl, itF rfl ?_⟩
          walk_at "go"
          refine ⟨es, T1, rfl, h12, hfe, gT1, ?_⟩
          rw [hAe]
          refine r2_neD (fit_tup hA) (fit_tup hA) ?_
          rw [eqA]
          refine ⟨_, rfl, itF rfl ?_⟩
          walk_at "ws1"
          -- for entry in told
          refine ws_cut2 (Nx := fun n1 ρ1 => n1 ≤ m + 10 ∧ ∃ x11, ρ1 = S21 P w b CO CE en es W V (.dk (tbD T1)) (.val (.int e.at_)) (.val (copyD L)) (.val (.int (0 + (i : Int)))) x11 (.val (copyD E0)) (.val (copyD G)) (.val (.dct (tbD T1))) (.val (copyD A1)) .un .un .un .un .un) ?_ ?_
          · refine ws_for ?_
            walk_at "go"
            refine ⟨fun k m2 ρ => m2 ≤ m + 10 ∧ ∃ x11, ρ = S21 P w b CO CE en es W V (.dk (tbD T1)) (.val (.int e.at_)) (.val (copyD L)) (.val (.int (0 + (i : Int)))) x11 (.val (copyD E0)) (.val (copyD G)) (.val (.dct (tbD T1))) (.val (copyD A1)) .un .un .un .un .un, ⟨hn1, _, rfl⟩, ?_, ?_⟩
            · rintro k m2 ρ1 d hd ⟨hm2, x11, rfl⟩
              obtain ⟨y, hy, rfl, hym, _⟩ := map_at hd
              obtain ⟨e2, he2, rfl⟩ := wt.2 y hym
              obtain ⟨e3, he3, en3, el3⟩ := look_tr V e2.nm es (List.mem_map.mpr ⟨e2, he2, rfl⟩)
              have ee := goodEvs_inj hg he3 he2 en3
              subst ee
              walk_at "wg1"
              refine ws_if ?_
              walk_at "go"
              refine ⟨Nat.le_of_ble_eq_true rfl, ?_⟩
              refine we_dget1 ?_
              walk_at "go"
              refine ⟨_, el3, ?_⟩
              refine r2_neD (fit_tr V e3) (fit_tr V e3) ?_
              have eqt : eqD (.tup [.tup ((e3.needs.map V).map .int), .int (V e3.nm)]) (trD V e3) = true := L3.eq_self (fit_tr V e3)
              rw [eqt]
              refine ⟨_, rfl, itF rfl ?_⟩
              walk_at "ws1"
              exact ⟨hm2, _, rfl⟩
            · rintro m2 ρ1 ⟨hm2, x11, rfl⟩
              exact ⟨hm2, x11, rfl⟩
          rintro n2 ρ1 ⟨hn2, x11, rfl⟩
          -- nothing is lost
          walk_at "ws1"
          refine ws_if ?_
          walk_at "we1"
          walk_at "we1"
          refine we_cb (wa_cons (wf_we (wf_map id (fun d => !inD d (A1.map entD)) ?_)))
          walk_at "go"
          refine ⟨by rw [List.length_map]; omega, fun d hd m => ?_, ?_⟩
          · obtain ⟨y, hy, rfl⟩ := List.mem_map.mp hd
            walk_at "go"
            refine r2_notIn rfl (hA y (hL' y hy)).1 (fit_ents hA) ?_
            refine ⟨_, rfl, rfl, rfl, fun _ => ?_⟩
            walk_at "go"
            exact ⟨rfl, rfl⟩
          have ef : (L.map entD).filter (fun d => !inD d (A1.map entD)) = [] := List.filter_eq_nil_iff.mpr fun d hd => by
            obtain ⟨y, hy, rfl⟩ := List.mem_map.mp hd
            rw [inD_ent, decide_eq_true (hL' y hy)]; decide
          rw [ef]
          refine wa_nil (rc_len rfl ?_)
          walk_at "go"
          refine decF (by decide) ?_
          walk_at "ws1"
          walk_at "ws1"
          walk_at "go"
          exact ⟨by omega, T1, A1, .val (.int e.at_), .val (.int (0 + (i : Int))), x11, .val (copyD E0), .val (copyD G), .val (.dct (tbD T1)), .val (copyD A1), hT', ⟨by omega, fun y hy => by rw [hAe]; exact hy⟩, (fun _ => ⟨e.at_, G, rfl, hat, hGne⟩), rfl⟩
        · rintro m ρ1 ⟨hm, Tb0, L, x8, x10, x11, x12, x13, x14, x15, hT, hL, hp, rfl⟩
          rw [rangeD_len] at hm hT hp
          obtain ⟨a, E, rfl, h1, h2⟩ := hp (by omega)
          exact ⟨by omega, Tb0, a, E, _, x10, x11, x12, x13, x14, x15, ⟨hT.nd, by have := hT.len; omega, fun p hp => ⟨by have := (hT.each p hp).1; omega, (hT.each p hp).2⟩⟩, h1, h2, rfl⟩
      rintro n5 ρ1 ⟨hn5, T1, a, E, x9, x10, x11, x12, x13, x14, x15, hT, hat, hE, rfl⟩
      have hEm := hT.at a
      rw [hat] at hEm
      have hEl : E.length ≤ 12 := hEm.1
      have hEx : ∀ y ∈ E, okE y ∧ y.v = ans W y.nm y.ks ∧ ∃ e ∈ es, y.nm = e.nm ∧ y.ks.length = e.needs.length := hEm.2
      have okE1 : ∀ y ∈ E, okE y := fun y hy => (hEx y hy).1
      have okq : okE ⟨"q1", [], 5⟩ := ok_of (by decide +kernel) _ _
      have hq : findE E "q1" [] = .non := by
        rw [findE_O]
        cases h : findO E "q1" [] with
        | none => rfl
        | some v =>
          obtain ⟨y, hy, e1, e2, _⟩ := findO_mem h
          obtain ⟨_, _, e', he', h1, _⟩ := hEx y hy
          obtain ⟨i, hi⟩ := List.getElem?_of_mem he'
          have hn := (ho.2 i e' hi).nm
          have hi8 : i < 8 := by have := (List.getElem?_eq_some_iff.mp hi).1; have := ho.1; omega
          rw [e1, hn] at h1
          have hm := nm_mem i hi8
          rw [← h1] at hm
          exact absurd hm (by decide +kernel)
      -- with_answer(tables[end], 'q1', (), 5)
      walk_at "ws1"
      refine ws_if ?_
      walk_at "we1"
      walk_at "we1"
      walk_at "we1"
      refine wa_cons (we_kget (i := 7) (kvs := tbD T1) rfl ?_)
      walk_at "go"
      refine ⟨copyD E, by rw [look_tb, hat]; rfl, ?_⟩
      walk_at "go"
      refine ⟨Nat.zero_le _, ?_⟩
      walk_at "go"
      refine ⟨E, ⟨"q1", [], 5⟩, rfl, by omega, okE1, okq, ?_⟩
      rw [putE_new (x := ⟨"q1", [], 5⟩) (by show isNon (findE E "q1" []) = true; rw [hq]; rfl)]
      walk_at "go"
      refine we_kget (i := 7) (kvs := tbD T1) rfl ?_
      walk_at "go"
      refine ⟨copyD E, by rw [look_tb, hat]; rfl, ?_⟩
      walk_at "go"
      refine rc_list rfl ?_
      walk_at "go"
      refine ⟨Nat.zero_le _, ?_⟩
      walk_at "go"
      refine ⟨Nat.le_of_ble_eq_true rfl, ?_⟩
      walk_at "go"
      refine ⟨Nat.le_of_ble_eq_true rfl, ?_⟩
      have e1 : E.map entD ++ [entD ⟨"q1", [], 5⟩] = (E ++ [(⟨"q1", [], 5⟩ : Ent)]).map entD := by rw [List.map_append]; rfl
      refine r2_cat (by rw [List.length_map]; show _ + 1 ≤ _; omega) ?_
      refine wa_nil ?_
      show RCD _ _ [.lst (E.map entD ++ [entD ⟨"q1", [], 5⟩])] _
      rw [e1]
      refine rc_sort (plain_ents _) (alike_E _) (sortable_E _) (by rw [List.length_map, List.length_append, sizeLine_eq]; show _ + 1 ≤ _; omega) (fun d hd => ?_) ?_
      · obtain ⟨y, _, rfl⟩ := List.mem_map.mp hd
        exact Nat.le_trans (depth_E y) (by decide)
      rw [sortD_ent]
      walk_at "go"
      refine rc_tup rfl ?_
      have okS : ∀ y ∈ sortE (E ++ [(⟨"q1", [], 5⟩ : Ent)]), okE y := fun y hy => by
        rcases List.mem_append.mp ((sortE_perm _).mem_iff.mp hy) with z | z
        · exact okE1 y z
        · rw [List.mem_singleton.mp z]; exact okq
      refine r2_neD (fit_tup okS) (fit_tup okS) ?_
      have eqS : eqD (.tup ((sortE (E ++ [(⟨"q1", [], 5⟩ : Ent)])).map entD)) (.tup ((sortE (E ++ [(⟨"q1", [], 5⟩ : Ent)])).map entD)) = true := L3.eq_self (fit_tup okS)
      rw [eqS]
      refine ⟨_, rfl, itF rfl ?_⟩
      walk_at "ws1"
      -- place
      refine ws_cut (fun n6 ρ1 => n6 ≤ 1001 ∧ ∃ k : Nat, k < E.length ∧ ρ1 = S21 P w b CO CE en es W V (.dk (tbD T1)) (.val (.int a)) x9 x10 x11 x12 x13 x14 x15 (.val (.int (k : Int))) .un .un .un .un) ?_ ?_
      · walk_at "ws1"
        walk_at "go"
        refine we_kget (i := 7) (kvs := tbD T1) rfl ?_
        walk_at "go"
        refine ⟨copyD E, by rw [look_tb, hat]; rfl, ?_⟩
        walk_at "go"
        rw [List.length_map]
        have hpos : 0 < E.length := List.length_pos_iff.mpr hE
        refine ⟨b, q, _, rfl, rfl, by omega, by omega, by omega, fun r h0 h4 => ?_⟩
        obtain ⟨k, rfl⟩ : ∃ k : Nat, r = (k : Int) := ⟨r.toNat, by omega⟩
        exact ⟨by omega, k, by omega, rfl⟩
      rintro n6 ρ1 ⟨hn6, k, hk, rfl⟩
      have hki : E[k]? = some E[k] := List.getElem?_eq_getElem hk
      have hkm : E[k] ∈ E := List.getElem_mem hk
      have hix : ixD (.lst (E.map entD)) (k : Int) = some (entD E[k]) := ixD_nat (by rw [List.getElem?_map, hki]; rfl)
      -- altered
      walk_at "ws1"
      refine ws_own (i := 17) (Nat.le_of_ble_eq_true rfl) (wf_list1 (we_kget (i := 7) (kvs := tbD T1) rfl ?_))
      walk_at "go"
      refine ⟨copyD E, by rw [look_tb, hat]; rfl, ?_⟩
      refine ⟨_, rfl, ?_⟩
      refine ws_cut (fun n7 ρ1 => n7 ≤ 1002 ∧ ∃ x : Ent, okE x ∧ ρ1 = S21 P w b CO CE en es W V (.dk (tbD T1)) (.val (.int a)) x9 x10 x11 x12 x13 x14 x15 (.val (.int (k : Int))) (.own ((E.set k x).map entD)) .un .un .un) ?_ ?_
      · refine ws_lset (i := 17) (ds := E.map entD) rfl ?_
        refine we_lookT 17 rfl ?_
        walk_at "go"
        refine r2_ix hix ?_
        walk_at "go"
        refine r2_ix hix ?_
        walk_at "go"
        refine r2_ix hix ?_
        walk_at "go"
        refine ⟨b, q, 3, rfl, rfl, by decide, by decide, by omega, fun r h0 h4 => ?_⟩
        walk_at "go"
        refine ⟨Nat.le_of_ble_eq_true rfl, noLst_ent ⟨E[k].nm, E[k].ks, E[k].v + 1 + r⟩, ?_⟩
        walk_at "go"
        refine ⟨by rw [List.length_map]; exact hk, by omega, ⟨E[k].nm, E[k].ks, E[k].v + 1 + r⟩, ok_of (ok_nm (okE1 _ hkm)) _ _, ?_⟩
        rw [List.map_set]; rfl
      rintro n7 ρ1 ⟨hn7, x, okx, rfl⟩
      have hA : ∀ y ∈ E.set k x, okE y := fun y hy => by
        rcases List.mem_or_eq_of_mem_set hy with z | z
        · exact okE1 y z
        · rw [z]; exact okx
      have hAl : (E.set k x).length ≤ 12 := by rw [List.length_set]; exact hEl
      have hxm : x ∈ E.set k x := List.mem_set hk x
      have hix2 : ixD (.lst ((E.set k x).map entD)) (k : Int) = some (entD x) := ixD_nat (by rw [List.getElem?_map, List.getElem?_set_self hk]; rfl)
      generalize E.set k x = A1 at hA hAl hxm hix2
      -- held
      walk_at "ws1"
      refine ws_set (we_lookT 17 rfl ?_)
      walk_at "go"
      refine r2_ix hix2 ?_
      refine ⟨noLst_ent x, ?_⟩
      refine ws_freeze 17 rfl ?_
      show WS _ _ (S21 P w b CO CE en es W V (.dk (tbD T1)) (.val (.int a)) x9 x10 x11 x12 x13 x14 x15 (.val (.int (k : Int))) (.val (.lst (A1.map entD))) (.val (entD x)) .un .un) _ _
      walk_at "ws1"
      refine ws_if ?_
      walk_at "go"
      refine rc_tup rfl ?_
      walk_at "go"
      refine ⟨A1, ⟨x.nm, x.ks, x.v - 1⟩, rfl, by omega, hA, ok_of (ok_nm okx) _ _, ?_⟩
      have hold : isNon (findE A1 x.nm x.ks) = false := by
        obtain ⟨v, hv⟩ := findO_some hxm
        rw [findE_O, hv]; rfl
      rw [putE_old (x := ⟨x.nm, x.ks, x.v - 1⟩) hold]
      walk_at "go"
      refine rc_tup rfl ?_
      refine r2_neD (fit_tup hA) (fit_tup hA) ?_
      have eqA : eqD (.tup (A1.map entD)) (.tup (A1.map entD)) = true := L3.eq_self (fit_tup hA)
      rw [eqA]
      refine ⟨_, rfl, itF rfl ?_⟩
      walk_at "ws1"
      walk_at "ws1"
      refine ws_kput (i := 7) (kvs := tbD T1) rfl (by unfold tbD; rw [List.length_map]; have := hT.len; omega) ?_
      walk_at "go"
      refine rc_tup rfl ?_
      walk_at "go"
      have ep : putKD (tbD T1) (.inl a) (.tup (A1.map entD)) = tbD (tput T1 a A1) := put_tb _ _ _
      rw [ep]
      have gT2 : goodT (tput T1 a A1) := fun p hp => by
        rcases tput_mem hp with z | z
        · rw [z]; exact ⟨by show A1.length ≤ 900; omega, hA⟩
        · exact hT.good (by omega) p z
      have nd2 := tput_keys T1 a A1 hT.nd
      have len2 := tput_len T1 a A1
      have hlen := hT.len
      generalize tput T1 a A1 = T2 at gT2 nd2 len2
      refine ws_freezeK 7 rfl ?_
      show WS _ _ (S21 P w b CO CE en es W V (.val (.dct (tbD T2))) (.val (.int a)) x9 x10 x11 x12 x13 x14 x15 (.val (.int (k : Int))) (.val (.lst (A1.map entD))) (.val (entD x)) .un .un) _ _
      walk_at "ws1"
      refine ws_knew (i := 19) (Nat.le_of_ble_eq_true rfl) ?_
      refine ws_cut (fun n8 ρ1 => ∃ (ns : List Int) (x20 : SD), ns.Perm (T2.map (·.1)) ∧ ρ1 = S21 P w b CO CE en es W V (.val (.dct (tbD T2))) (.val (.int a)) x9 x10 x11 x12 x13 x14 x15 (.val (.int (k : Int))) (.val (.lst (A1.map entD))) (.val (entD x)) (.dk (tbD (turnT T2 ns))) x20) ?_ ?_
      · refine ws_for (wi_seq (we_sortKR ?_))
        walk_at "go"
        refine ⟨tbD T2, T2.map (·.1), rfl, by unfold tbD; rw [List.map_map, List.map_map]; rfl, ?_⟩
        walk_at "go"
        refine ⟨rfl, fun ns hp => ?_⟩
        have ndn : ns.Nodup := hp.nodup_iff.mpr nd2
        have hnl : ns.length = T2.length := by rw [hp.length_eq, List.length_map]
        refine ⟨_, rfl, fun i m ρ => ∃ x20 : SD, ρ = S21 P w b CO CE en es W V (.val (.dct (tbD T2))) (.val (.int a)) x9 x10 x11 x12 x13 x14 x15 (.val (.int (k : Int))) (.val (.lst (A1.map entD))) (.val (entD x)) (.dk (tbD (turnT T2 (ns.take i)))) x20, ⟨_, rfl⟩, ?_, ?_⟩
        · rintro i m ρ1 d hd ⟨x20, rfl⟩
          obtain ⟨at_, hai, rfl, ham, tk⟩ := map_at hd
          have hi : i < ns.length := (List.getElem?_eq_some_iff.mp hai).1
          obtain ⟨E3, hE3⟩ := at_some (hp.mem_iff.mp ham)
          walk_at "wg1"
          refine ws_kput (i := 19) (kvs := tbD (turnT T2 (ns.take i))) rfl (by unfold tbD turnT; rw [List.length_map, List.length_map, List.length_take]; omega) ?_
          refine we_dget1 ?_
          walk_at "go"
          refine ⟨copyD E3, by rw [look_tb, hE3]; rfl, ?_⟩
          walk_at "go"
          have hnin : at_ ∉ (turnT T2 (ns.take i)).map (·.1) := fun z => by
            obtain ⟨p, hp1, hp2⟩ := List.mem_map.mp z
            obtain ⟨y, hy, rfl⟩ := List.mem_map.mp hp1
            have hp2' : y = at_ := hp2
            subst hp2'
            rw [← List.take_append_drop (i + 1) ns, tk] at ndn
            have := (List.nodup_append.mp (List.nodup_append.mp ndn).1).2.2 y hy y (List.mem_singleton.mpr rfl)
            exact this rfl
          have e2 : putKD (tbD (turnT T2 (ns.take i))) (.inl at_) (copyD E3) = tbD (turnT T2 (ns.take (i + 1))) := by
            rw [put_tb, tput_new hnin, tk]
            unfold turnT
            rw [List.map_append]
            show tbD (_ ++ [(at_, E3)]) = tbD (_ ++ [(at_, (atT T2 at_).getD [])])
            rw [hE3]; rfl
          rw [e2]
          exact ⟨_, rfl⟩
        · rintro m ρ1 ⟨x20, rfl⟩
          rw [List.length_map, List.take_length]
          exact ⟨ns, x20, hp, rfl⟩
      rintro n8 ρ1 ⟨ns, x20, hp, rfl⟩
      have gT3 : goodT (turnT T2 ns) := fun p hp => by
        obtain ⟨y, _, rfl⟩ := List.mem_map.mp hp
        exact good_at gT2 y
      have tc := told_congr (turn_all hp) es
      have hAA : ∀ y ∈ toldF T2 es, okE y := fun y hy => by
        obtain ⟨e', he', h1, _⟩ := told_mem T2 es y hy
        obtain ⟨yn, yk, yv⟩ := y
        have h1' : yn = e'.nm := h1
        subst h1'
        exact ok_of (hfe e' he').2 _ _
      refine ws_freezeK 19 rfl ?_
      walk_at "ws1"
      walk_at "go"
      refine ⟨es, turnT T2 ns, rfl, h12, hfe, gT3, ?_⟩
      rw [tc]
      walk_at "go"
      refine ⟨es, T2, rfl, h12, hfe, gT2, ?_⟩
      refine r2_eqD (fit_tup hAA) (fit_tup hAA) ?_
      rw [L3.eq_self (fit_tup hAA)]
      refine ⟨_, rfl, itT rfl ?_⟩
      walk_at "go"
      refine we_dnewK ?_
      walk_at "go"
      refine ⟨es, [], rfl, h12, hfe, (fun p hp => nomatch hp), ?_⟩
      rw [told_none]
      walk_at "go"
      refine ⟨Nat.zero_le _, ?_⟩
      exact r2_eqD rfl rfl rfl
end
end Toy
namespace Toy
open PySem L2 L3
theorem all_mk {l : PySem.W.OpenLaw} {w : World} {K : PySem.W.Frag} {h : Heap} {mg : Str → Option Value} {fa : Addr} (X : K.In h) (G : h.Ns mainGlobals mg) (hfa : mg "law" = some (.ref fa))
    {C_Event : Addr}
    {f2 : Addr}
    {C_Order : Addr}
    {f4 : Addr}
    {f0 : Addr}
    {od0 an0 : Option Addr} {sl0 : Array (Option Value)} {oc0 kV0 dc0 pm0 cd0 ct0 : Value}
    {f1 : Addr}
    {od1 an1 : Option Addr} {sl1 : Array (Option Value)} {oc1 kV1 dc1 pm1 cd1 ct1 : Value}
    {od2 an2 : Option Addr} {sl2 : Array (Option Value)} {oc2 kV2 dc2 pm2 cd2 ct2 : Value}
    {TT2 : Addr} {odT2 : Option Addr} {slT2 : Array (Option Value)} {ocT2 : Value} {nT2 : Nat} {E0 : Addr}
    {f3 : Addr}
    {od3 an3 : Option Addr} {sl3 : Array (Option Value)} {oc3 kV3 dc3 pm3 cd3 ct3 : Value}
    {od4 an4 : Option Addr} {sl4 : Array (Option Value)} {oc4 kV4 dc4 pm4 cd4 ct4 : Value}
    {f5 : Addr}
    {od5 an5 : Option Addr} {sl5 : Array (Option Value)} {oc5 kV5 dc5 pm5 cd5 ct5 : Value}
    {f6 : Addr}
    {od6 an6 : Option Addr} {sl6 : Array (Option Value)} {oc6 kV6 dc6 pm6 cd6 ct6 : Value}
    {f7 : Addr}
    {od7 an7 : Option Addr} {sl7 : Array (Option Value)} {oc7 kV7 dc7 pm7 cd7 ct7 : Value}
    {f8 : Addr}
    {od8 an8 : Option Addr} {sl8 : Array (Option Value)} {oc8 kV8 dc8 pm8 cd8 ct8 : Value}
    {f9 : Addr}
    {od9 an9 : Option Addr} {sl9 : Array (Option Value)} {oc9 kV9 dc9 pm9 cd9 ct9 : Value}
    {f10 : Addr}
    {od10 an10 : Option Addr} {sl10 : Array (Option Value)} {oc10 kV10 dc10 pm10 cd10 ct10 : Value}
    {f11 : Addr}
    {od11 an11 : Option Addr} {sl11 : Array (Option Value)} {oc11 kV11 dc11 pm11 cd11 ct11 : Value}
    {f12 : Addr}
    {od12 an12 : Option Addr} {sl12 : Array (Option Value)} {oc12 kV12 dc12 pm12 cd12 ct12 : Value}
    {f13 : Addr}
    {od13 an13 : Option Addr} {sl13 : Array (Option Value)} {oc13 kV13 dc13 pm13 cd13 ct13 : Value}
    {f14 : Addr}
    {od14 an14 : Option Addr} {sl14 : Array (Option Value)} {oc14 kV14 dc14 pm14 cd14 ct14 : Value}
    {f15 : Addr}
    {od15 an15 : Option Addr} {sl15 : Array (Option Value)} {oc15 kV15 dc15 pm15 cd15 ct15 : Value}
    {f16 : Addr}
    {od16 an16 : Option Addr} {sl16 : Array (Option Value)} {oc16 kV16 dc16 pm16 cd16 ct16 : Value}
    {f17 : Addr}
    {od17 an17 : Option Addr} {sl17 : Array (Option Value)} {oc17 kV17 dc17 pm17 cd17 ct17 : Value}
    {f18 : Addr}
    {od18 an18 : Option Addr} {sl18 : Array (Option Value)} {oc18 kV18 dc18 pm18 cd18 ct18 : Value}
    {f19 : Addr}
    {od19 an19 : Option Addr} {sl19 : Array (Option Value)} {oc19 kV19 dc19 pm19 cd19 ct19 : Value}
    {f20 : Addr}
    {od20 an20 : Option Addr} {sl20 : Array (Option Value)} {oc20 kV20 dc20 pm20 cd20 ct20 : Value}
    {f21 : Addr}
    {od21 an21 : Option Addr} {sl21 : Array (Option Value)} {oc21 kV21 dc21 pm21 cd21 ct21 : Value}
    {f22 : Addr}
    {od22 an22 : Option Addr} {sl22 : Array (Option Value)} {oc22 kV22 dc22 pm22 cd22 ct22 : Value}
    {f23 : Addr}
    {od23 an23 : Option Addr} {sl23 : Array (Option Value)} {oc23 kV23 dc23 pm23 cd23 ct23 : Value}
    {f24 : Addr}
    {od24 an24 : Option Addr} {sl24 : Array (Option Value)} {oc24 kV24 dc24 pm24 cd24 ct24 : Value}
    {f25 : Addr}
    {od25 an25 : Option Addr} {sl25 : Array (Option Value)} {oc25 kV25 dc25 pm25 cd25 ct25 : Value}
    {tL tS tE tN tM tq ta : Tok}
    {aK : Addr}
    {odK : Option Addr}
    {nK : Nat}
    {slK : Array (Option Value)}
    (aC_Event : PySem.W.nsIn K mainGlobals "Event" = some (some (.ref C_Event)))
    (pg_Event : PySem.W.plainGet K C_Event Str.empty = true)
    (hd_Event : PySem.W.hasDictIn K C_Event = true)
    (po_Event : PySem.W.plainOver K C_Event = true)
    (sa_Event : PySem.W.findIn K (.ref C_Event) "__setattr__" = some (some (.builtin "object.__setattr__")))
    (na_Event_name : PySem.W.findIn K (.ref C_Event) "name" = some none)
    (na_Event_end : PySem.W.findIn K (.ref C_Event) "end" = some none)
    (na_Event_kind : PySem.W.findIn K (.ref C_Event) "kind" = some none)
    (na_Event_needs : PySem.W.findIn K (.ref C_Event) "needs" = some none)
    (mk_Event : PySem.W.makesIn K C_Event = true)
    (in_Event : PySem.W.findIn K (.ref C_Event) "__init__" = some (some (.ref f2)))
    (fn_Event : PySem.W.isFn K (.ref f2) = true)
    (kp_Event : PySem.W.keepIn K (.ref C_Event) = true)
    (aC_Order : PySem.W.nsIn K mainGlobals "Order" = some (some (.ref C_Order)))
    (pg_Order : PySem.W.plainGet K C_Order Str.empty = true)
    (hd_Order : PySem.W.hasDictIn K C_Order = true)
    (po_Order : PySem.W.plainOver K C_Order = true)
    (sa_Order : PySem.W.findIn K (.ref C_Order) "__setattr__" = some (some (.builtin "object.__setattr__")))
    (na_Order_events : PySem.W.findIn K (.ref C_Order) "events" = some none)
    (mk_Order : PySem.W.makesIn K C_Order = true)
    (in_Order : PySem.W.findIn K (.ref C_Order) "__init__" = some (some (.ref f4)))
    (fn_Order : PySem.W.isFn K (.ref f4) = true)
    (kp_Order : PySem.W.keepIn K (.ref C_Order) = true)
    (a0 : PySem.W.nsIn K mainGlobals "is_whole" = some (some (.ref f0)))
    (l0 : K.lookup f0 = some ⟨oc0, od0, .func (PySem.W.fnOf "is_whole" "is_whole" (defArgs s_is_whole) (defBody s_is_whole) (defScope s_is_whole) .none kV0 dc0 pm0 an0 cd0 ct0), sl0⟩)
    (c0 : PySem.W.codeIn K cd0 "is_whole" = true)
    (k0 : PySem.W.keepIn K (.ref f0) = true)
    (a1 : PySem.W.nsIn K mainGlobals "is_name" = some (some (.ref f1)))
    (l1 : K.lookup f1 = some ⟨oc1, od1, .func (PySem.W.fnOf "is_name" "is_name" (defArgs s_is_name) (defBody s_is_name) (defScope s_is_name) .none kV1 dc1 pm1 an1 cd1 ct1), sl1⟩)
    (c1 : PySem.W.codeIn K cd1 "is_name" = true)
    (k1 : PySem.W.keepIn K (.ref f1) = true)
    (l2 : K.lookup f2 = some ⟨oc2, od2, .func (PySem.W.fnOf "__init__" "Event.__init__" (defArgs s_Event___init) (defBody s_Event___init) (defScope s_Event___init) (.ref TT2) kV2 dc2 pm2 an2 cd2 ct2), sl2⟩)
    (c2 : PySem.W.codeIn K cd2 "Event.__init__" = true)
    (k2 : PySem.W.keepIn K (.ref f2) = true)
    (lT2 : K.lookup TT2 = some ⟨ocT2, odT2, .seq #[.ref E0] nT2, slT2⟩)
    (a3 : PySem.W.nsIn K mainGlobals "event_fault" = some (some (.ref f3)))
    (l3 : K.lookup f3 = some ⟨oc3, od3, .func (PySem.W.fnOf "event_fault" "event_fault" (defArgs s_event_fault) (defBody s_event_fault) (defScope s_event_fault) .none kV3 dc3 pm3 an3 cd3 ct3), sl3⟩)
    (c3 : PySem.W.codeIn K cd3 "event_fault" = true)
    (k3 : PySem.W.keepIn K (.ref f3) = true)
    (l4 : K.lookup f4 = some ⟨oc4, od4, .func (PySem.W.fnOf "__init__" "Order.__init__" (defArgs s_Order___init) (defBody s_Order___init) (defScope s_Order___init) .none kV4 dc4 pm4 an4 cd4 ct4), sl4⟩)
    (c4 : PySem.W.codeIn K cd4 "Order.__init__" = true)
    (k4 : PySem.W.keepIn K (.ref f4) = true)
    (a5 : PySem.W.nsIn K mainGlobals "entry_value" = some (some (.ref f5)))
    (l5 : K.lookup f5 = some ⟨oc5, od5, .func (PySem.W.fnOf "entry_value" "entry_value" (defArgs s_entry_value) (defBody s_entry_value) (defScope s_entry_value) .none kV5 dc5 pm5 an5 cd5 ct5), sl5⟩)
    (c5 : PySem.W.codeIn K cd5 "entry_value" = true)
    (k5 : PySem.W.keepIn K (.ref f5) = true)
    (a6 : PySem.W.nsIn K mainGlobals "with_answer" = some (some (.ref f6)))
    (l6 : K.lookup f6 = some ⟨oc6, od6, .func (PySem.W.fnOf "with_answer" "with_answer" (defArgs s_with_answer) (defBody s_with_answer) (defScope s_with_answer) .none kV6 dc6 pm6 an6 cd6 ct6), sl6⟩)
    (c6 : PySem.W.codeIn K cd6 "with_answer" = true)
    (k6 : PySem.W.keepIn K (.ref f6) = true)
    (a7 : PySem.W.nsIn K mainGlobals "walk" = some (some (.ref f7)))
    (l7 : K.lookup f7 = some ⟨oc7, od7, .func (PySem.W.fnOf "walk" "walk" (defArgs s_walk) (defBody s_walk) (defScope s_walk) .none kV7 dc7 pm7 an7 cd7 ct7), sl7⟩)
    (c7 : PySem.W.codeIn K cd7 "walk" = true)
    (k7 : PySem.W.keepIn K (.ref f7) = true)
    (a8 : PySem.W.nsIn K mainGlobals "play" = some (some (.ref f8)))
    (l8 : K.lookup f8 = some ⟨oc8, od8, .func (PySem.W.fnOf "play" "play" (defArgs s_play) (defBody s_play) (defScope s_play) .none kV8 dc8 pm8 an8 cd8 ct8), sl8⟩)
    (c8 : PySem.W.codeIn K cd8 "play" = true)
    (k8 : PySem.W.keepIn K (.ref f8) = true)
    (a9 : PySem.W.nsIn K mainGlobals "_law_bag" = some (some (.ref f9)))
    (l9 : K.lookup f9 = some ⟨oc9, od9, .func (PySem.W.fnOf "_law_bag" "_law_bag" (defArgs s_law_bag) (defBody s_law_bag) (defScope s_law_bag) .none kV9 dc9 pm9 an9 cd9 ct9), sl9⟩)
    (c9 : PySem.W.codeIn K cd9 "_law_bag" = true)
    (k9 : PySem.W.keepIn K (.ref f9) = true)
    (a10 : PySem.W.nsIn K mainGlobals "_law_draw" = some (some (.ref f10)))
    (l10 : K.lookup f10 = some ⟨oc10, od10, .func (PySem.W.fnOf "_law_draw" "_law_draw" (defArgs s_law_draw) (defBody s_law_draw) (defScope s_law_draw) .none kV10 dc10 pm10 an10 cd10 ct10), sl10⟩)
    (c10 : PySem.W.codeIn K cd10 "_law_draw" = true)
    (k10 : PySem.W.keepIn K (.ref f10) = true)
    (a11 : PySem.W.nsIn K mainGlobals "_law_find" = some (some (.ref f11)))
    (l11 : K.lookup f11 = some ⟨oc11, od11, .func (PySem.W.fnOf "_law_find" "_law_find" (defArgs s_law_find) (defBody s_law_find) (defScope s_law_find) .none kV11 dc11 pm11 an11 cd11 ct11), sl11⟩)
    (c11 : PySem.W.codeIn K cd11 "_law_find" = true)
    (k11 : PySem.W.keepIn K (.ref f11) = true)
    (a12 : PySem.W.nsIn K mainGlobals "_law_put" = some (some (.ref f12)))
    (l12 : K.lookup f12 = some ⟨oc12, od12, .func (PySem.W.fnOf "_law_put" "_law_put" (defArgs s_law_put) (defBody s_law_put) (defScope s_law_put) .none kV12 dc12 pm12 an12 cd12 ct12), sl12⟩)
    (c12 : PySem.W.codeIn K cd12 "_law_put" = true)
    (k12 : PySem.W.keepIn K (.ref f12) = true)
    (a13 : PySem.W.nsIn K mainGlobals "_law_order" = some (some (.ref f13)))
    (l13 : K.lookup f13 = some ⟨oc13, od13, .func (PySem.W.fnOf "_law_order" "_law_order" (defArgs s_law_order) (defBody s_law_order) (defScope s_law_order) .none kV13 dc13 pm13 an13 cd13 ct13), sl13⟩)
    (c13 : PySem.W.codeIn K cd13 "_law_order" = true)
    (k13 : PySem.W.keepIn K (.ref f13) = true)
    (a14 : PySem.W.nsIn K mainGlobals "_law_wide_order" = some (some (.ref f14)))
    (l14 : K.lookup f14 = some ⟨oc14, od14, .func (PySem.W.fnOf "_law_wide_order" "_law_wide_order" (defArgs s_law_wide_order) (defBody s_law_wide_order) (defScope s_law_wide_order) .none kV14 dc14 pm14 an14 cd14 ct14), sl14⟩)
    (c14 : PySem.W.codeIn K cd14 "_law_wide_order" = true)
    (k14 : PySem.W.keepIn K (.ref f14) = true)
    (a15 : PySem.W.nsIn K mainGlobals "_law_answer" = some (some (.ref f15)))
    (l15 : K.lookup f15 = some ⟨oc15, od15, .func (PySem.W.fnOf "_law_answer" "_law_answer" (defArgs s_law_answer) (defBody s_law_answer) (defScope s_law_answer) .none kV15 dc15 pm15 an15 cd15 ct15), sl15⟩)
    (c15 : PySem.W.codeIn K cd15 "_law_answer" = true)
    (k15 : PySem.W.keepIn K (.ref f15) = true)
    (a16 : PySem.W.nsIn K mainGlobals "_law_true" = some (some (.ref f16)))
    (l16 : K.lookup f16 = some ⟨oc16, od16, .func (PySem.W.fnOf "_law_true" "_law_true" (defArgs s_law_true) (defBody s_law_true) (defScope s_law_true) .none kV16 dc16 pm16 an16 cd16 ct16), sl16⟩)
    (c16 : PySem.W.codeIn K cd16 "_law_true" = true)
    (k16 : PySem.W.keepIn K (.ref f16) = true)
    (a17 : PySem.W.nsIn K mainGlobals "_law_made_world" = some (some (.ref f17)))
    (l17 : K.lookup f17 = some ⟨oc17, od17, .func (PySem.W.fnOf "_law_made_world" "_law_made_world" (defArgs s_law_made_world) (defBody s_law_made_world) (defScope s_law_made_world) .none kV17 dc17 pm17 an17 cd17 ct17), sl17⟩)
    (c17 : PySem.W.codeIn K cd17 "_law_made_world" = true)
    (k17 : PySem.W.keepIn K (.ref f17) = true)
    (a18 : PySem.W.nsIn K mainGlobals "_law_order_of" = some (some (.ref f18)))
    (l18 : K.lookup f18 = some ⟨oc18, od18, .func (PySem.W.fnOf "_law_order_of" "_law_order_of" (defArgs s_law_order_of) (defBody s_law_order_of) (defScope s_law_order_of) .none kV18 dc18 pm18 an18 cd18 ct18), sl18⟩)
    (c18 : PySem.W.codeIn K cd18 "_law_order_of" = true)
    (k18 : PySem.W.keepIn K (.ref f18) = true)
    (a19 : PySem.W.nsIn K mainGlobals "_law_is_whole" = some (some (.ref f19)))
    (l19 : K.lookup f19 = some ⟨oc19, od19, .func (PySem.W.fnOf "_law_is_whole" "_law_is_whole" (defArgs s_law_is_whole) (defBody s_law_is_whole) (defScope s_law_is_whole) .none kV19 dc19 pm19 an19 cd19 ct19), sl19⟩)
    (c19 : PySem.W.codeIn K cd19 "_law_is_whole" = true)
    (k19 : PySem.W.keepIn K (.ref f19) = true)
    (a20 : PySem.W.nsIn K mainGlobals "_law_is_entry" = some (some (.ref f20)))
    (l20 : K.lookup f20 = some ⟨oc20, od20, .func (PySem.W.fnOf "_law_is_entry" "_law_is_entry" (defArgs s_law_is_entry) (defBody s_law_is_entry) (defScope s_law_is_entry) .none kV20 dc20 pm20 an20 cd20 ct20), sl20⟩)
    (c20 : PySem.W.codeIn K cd20 "_law_is_entry" = true)
    (k20 : PySem.W.keepIn K (.ref f20) = true)
    (a21 : PySem.W.nsIn K mainGlobals "_law_are_entries" = some (some (.ref f21)))
    (l21 : K.lookup f21 = some ⟨oc21, od21, .func (PySem.W.fnOf "_law_are_entries" "_law_are_entries" (defArgs s_law_are_entries) (defBody s_law_are_entries) (defScope s_law_are_entries) .none kV21 dc21 pm21 an21 cd21 ct21), sl21⟩)
    (c21 : PySem.W.codeIn K cd21 "_law_are_entries" = true)
    (k21 : PySem.W.keepIn K (.ref f21) = true)
    (a22 : PySem.W.nsIn K mainGlobals "_law_walk" = some (some (.ref f22)))
    (l22 : K.lookup f22 = some ⟨oc22, od22, .func (PySem.W.fnOf "_law_walk" "_law_walk" (defArgs s_law_walk) (defBody s_law_walk) (defScope s_law_walk) .none kV22 dc22 pm22 an22 cd22 ct22), sl22⟩)
    (c22 : PySem.W.codeIn K cd22 "_law_walk" = true)
    (k22 : PySem.W.keepIn K (.ref f22) = true)
    (a23 : PySem.W.nsIn K mainGlobals "_law_due_play" = some (some (.ref f23)))
    (l23 : K.lookup f23 = some ⟨oc23, od23, .func (PySem.W.fnOf "_law_due_play" "_law_due_play" (defArgs s_law_due_play) (defBody s_law_due_play) (defScope s_law_due_play) .none kV23 dc23 pm23 an23 cd23 ct23), sl23⟩)
    (c23 : PySem.W.codeIn K cd23 "_law_due_play" = true)
    (k23 : PySem.W.keepIn K (.ref f23) = true)
    (a24 : PySem.W.nsIn K mainGlobals "_law_grown" = some (some (.ref f24)))
    (l24 : K.lookup f24 = some ⟨oc24, od24, .func (PySem.W.fnOf "_law_grown" "_law_grown" (defArgs s_law_grown) (defBody s_law_grown) (defScope s_law_grown) .none kV24 dc24 pm24 an24 cd24 ct24), sl24⟩)
    (c24 : PySem.W.codeIn K cd24 "_law_grown" = true)
    (k24 : PySem.W.keepIn K (.ref f24) = true)
    (a25 : PySem.W.nsIn K mainGlobals "law" = some (some (.ref f25)))
    (l25 : K.lookup f25 = some ⟨oc25, od25, .func (PySem.W.fnOf "law" "law" (defArgs s_law) (defBody s_law) (defScope s_law) .none kV25 dc25 pm25 an25 cd25 ct25), sl25⟩)
    (c25 : PySem.W.codeIn K cd25 "law" = true)
    (k25 : PySem.W.keepIn K (.ref f25) = true)
    (zLETTERS : PySem.W.nsIn K mainGlobals "LETTERS" = some (some (.str letters tL)))
    (zSIGNS : PySem.W.nsIn K mainGlobals "SIGNS" = some (some (.str signs36 tS)))
    (zENDS : PySem.W.nsIn K mainGlobals "MOST_ENDS" = some (some (.int 5 tE)))
    (zNEEDS : PySem.W.nsIn K mainGlobals "MOST_NEEDS" = some (some (.int 3 tN)))
    (zEVENTS : PySem.W.nsIn K mainGlobals "MOST_EVENTS" = some (some (.int 12 tM)))
    (zKINDS : PySem.W.nsIn K mainGlobals "KINDS" = some (some (.ref aK)))
    (lK : K.lookup aK = some ⟨.type "tuple", odK, .seq #[.str "query" tq, .str "action" ta] nK, slK⟩)
    (z_len : PySem.W.nsIn K mainGlobals "len" = some none)
    (z_abs : PySem.W.nsIn K mainGlobals "abs" = some none)
    (z_sum : PySem.W.nsIn K mainGlobals "sum" = some none)
    (z_max : PySem.W.nsIn K mainGlobals "max" = some none)
    (z_min : PySem.W.nsIn K mainGlobals "min" = some none)
    (z_all : PySem.W.nsIn K mainGlobals "all" = some none)
    (z_any : PySem.W.nsIn K mainGlobals "any" = some none)
    (z_sorted : PySem.W.nsIn K mainGlobals "sorted" = some none)
    (z_isinstance : PySem.W.nsIn K mainGlobals "isinstance" = some none)
    (z_int : PySem.W.nsIn K mainGlobals "int" = some none)
    (z_bool : PySem.W.nsIn K mainGlobals "bool" = some none)
    (z_str : PySem.W.nsIn K mainGlobals "str" = some none)
    (z_list : PySem.W.nsIn K mainGlobals "list" = some none)
    (z_tuple : PySem.W.nsIn K mainGlobals "tuple" = some none)
    (z_range : PySem.W.nsIn K mainGlobals "range" = some none)
    (z_enumerate : PySem.W.nsIn K mainGlobals "enumerate" = some none)
    (z_dict : PySem.W.nsIn K mainGlobals "dict" = some none)
    : ∃ fd : FuncData, (∀ (s : Shared) (v : Value), BindsTo s fd ⟨[v], []⟩ [("script", v)]) ∧ ∀ base : Heap, K.In base → base.Ns mainGlobals mg → FnOk l.prog w K mg base CX0 6 fa fd ["script"] (spLaw K) := by
  have e := hfa.symm.trans (PySem.W.mg_of X G a25)
  cases e
  have T : Txt mg := ⟨PySem.W.mg_none_of X G z_len, PySem.W.mg_none_of X G z_abs, PySem.W.mg_none_of X G z_sum, PySem.W.mg_none_of X G z_max, PySem.W.mg_none_of X G z_min, PySem.W.mg_none_of X G z_all, PySem.W.mg_none_of X G z_any, PySem.W.mg_none_of X G z_sorted, PySem.W.mg_none_of X G z_isinstance, PySem.W.mg_none_of X G z_int, PySem.W.mg_none_of X G z_bool, PySem.W.mg_none_of X G z_str, PySem.W.mg_none_of X G z_list, PySem.W.mg_none_of X G z_tuple, PySem.W.mg_none_of X G z_range, PySem.W.mg_none_of X G z_enumerate, PySem.W.mg_none_of X G z_dict⟩
  refine ⟨PySem.W.fnOf "law" "law" (defArgs s_law) (defBody s_law) (defScope s_law) .none kV25 dc25 pm25 an25 cd25 ct25, fun s v => .of_eq rfl, fun base _ _ => ?_⟩
  have T2 : Txt2 mg tL tS := ⟨T, PySem.W.mg_of X G zLETTERS, PySem.W.mg_of X G zSIGNS⟩
  have T3 : Txt3 K mg tE tN aK := ⟨T, PySem.W.mg_of X G zENDS, PySem.W.mg_of X G zNEEDS, PySem.W.mg_of X G zKINDS, fun H => .tup (.inr ⟨_, _, _, lK, rfl, rfl, Nat.le_of_ble_eq_true rfl, (show Vals [V.str "query", V.str "action"] _ from .cons ⟨_, rfl⟩ (.cons ⟨_, rfl⟩ .nil))⟩) (.cons (.str _) (.cons (.str _) .nil))⟩
  have T4 : Txt4 mg tM := ⟨T, PySem.W.mg_of X G zEVENTS⟩
  have Cl_Event : Cls K C_Event := ⟨pg_Event, hd_Event, po_Event, sa_Event⟩
  have TE : EvT K C_Event := ⟨Cl_Event, na_Event_name, na_Event_end, na_Event_kind, na_Event_needs⟩
  have Cl_Order : Cls K C_Order := ⟨pg_Order, hd_Order, po_Order, sa_Order⟩
  have TO : OrT K C_Order := ⟨Cl_Order, na_Order_events⟩
  have F0 := fun_mk (st := s_is_whole) l0 c0 k0
  have b0 := F0.binds (ps := ["thing"]) fun _ _ _ _ _ _ us hl => match us, hl with | [_], _ => rfl
  let E_is_whole : Dn l.prog w K mg base "is_whole" 1 ["thing"] [] [] spWhole := ⟨f0, _, ok_whole F0 T, PySem.W.mg_of X G a0, k0, b0, .nil⟩
  have F1 := fun_mk (st := s_is_name) l1 c1 k1
  have b1 := F1.binds (ps := ["thing"]) fun _ _ _ _ _ _ us hl => match us, hl with | [_], _ => rfl
  let E_is_name : Dn l.prog w K mg base "is_name" 1 ["thing"] [] [] spName := ⟨f1, _, ok_name F1 T2, PySem.W.mg_of X G a1, k1, b1, .nil⟩
  have F2 : FunD K "__init__" "Event.__init__" (defArgs s_Event___init) (defBody s_Event___init) (defScope s_Event___init) [.ref E0] [] f2 _ := ⟨⟨_, _, _, _, _, _, _, _, _, _, rfl, l2, c2, .inr ⟨by simp, TT2, _, [.ref E0], nT2, rfl, lT2, rfl, .cons rfl .nil⟩, .inl rfl⟩, k2⟩
  obtain ⟨dw2, hv2, b2⟩ := F2.binds1 (ps := ["self", "name", "end", "kind", "needs"]) 5 1 (by simp) rfl fun T kV doc pm an cdv ct us its h1 h2 => match us, its, h1, h2 with | [x0, x1, x2, x3, x4], [y0], _, _ => ⟨_, rfl, rfl⟩
  cases hv2
  let M_Event : Mn l.prog w K mg base "Event" 1 ["self", "name", "end", "kind", "needs"] [] [] spEv := ⟨C_Event, f2, _, ⟨mk_Event, in_Event, fn_Event, kp_Event⟩, Cl_Event, ok_event F2 T TE, PySem.W.mg_of X G aC_Event, b2, .nil⟩
  have F3 := fun_mk (st := s_event_fault) l3 c3 k3
  have b3 := F3.binds (ps := ["event", "elder"]) fun _ _ _ _ _ _ us hl => match us, hl with | [_, _], _ => rfl
  let E_event_fault : Dn l.prog w K mg base "event_fault" 2 ["event", "elder"] [] [] (spFault C_Event) := ⟨f3, _, ok_fault F3 T3 TE E_is_name E_is_whole, PySem.W.mg_of X G a3, k3, b3, .nil⟩
  have F4 := fun_mk (st := s_Order___init) l4 c4 k4
  have b4 := F4.binds (ps := ["self", "events"]) fun _ _ _ _ _ _ us hl => match us, hl with | [_, _], _ => rfl
  let M_Order : Mn l.prog w K mg base "Order" 3 ["self", "events"] [] [] (spOrder C_Event) := ⟨C_Order, f4, _, ⟨mk_Order, in_Order, fn_Order, kp_Order⟩, Cl_Order, ok_order F4 T4 TO TE E_event_fault, PySem.W.mg_of X G aC_Order, b4, .nil⟩
  have F5 := fun_mk (st := s_entry_value) l5 c5 k5
  have b5 := F5.binds (ps := ["table", "name", "key"]) fun _ _ _ _ _ _ us hl => match us, hl with | [_, _, _], _ => rfl
  let E_entry_value : Dn l.prog w K mg base "entry_value" 1 ["table", "name", "key"] [] [] spFind := ⟨f5, _, ok_entry_value F5 T, PySem.W.mg_of X G a5, k5, b5, .nil⟩
  have F6 := fun_mk (st := s_with_answer) l6 c6 k6
  have b6 := F6.binds (ps := ["table", "name", "key", "value"]) fun _ _ _ _ _ _ us hl => match us, hl with | [_, _, _, _], _ => rfl
  let E_with_answer : Dn l.prog w K mg base "with_answer" 2 ["table", "name", "key", "value"] [] [] spWith := ⟨f6, _, ok_with F6 T E_entry_value, PySem.W.mg_of X G a6, k6, b6, .nil⟩
  have F7 := fun_mk (st := s_walk) l7 c7 k7
  have b7 := F7.binds (ps := ["order", "tables"]) fun _ _ _ _ _ _ us hl => match us, hl with | [_, _], _ => rfl
  let E_walk : Dn l.prog w K mg base "walk" 2 ["order", "tables"] [] [] (spWalkP C_Order C_Event) := ⟨f7, _, ok_walk F7 T TO TE E_entry_value, PySem.W.mg_of X G a7, k7, b7, .nil⟩
  have F8 := fun_mk (st := s_play) l8 c8 k8
  have b8 := F8.binds (ps := ["order", "tables"]) fun _ _ _ _ _ _ us hl => match us, hl with | [_, _], _ => rfl
  let E_play : Dn l.prog w K mg base "play" 3 ["order", "tables"] [] [] (spPlayP C_Order C_Event) := ⟨f8, _, ok_play F8 T TE E_walk, PySem.W.mg_of X G a8, k8, b8, .nil⟩
  have F9 := fun_mk (st := s_law_bag) l9 c9 k9
  have b9 := F9.binds (ps := ["script"]) fun _ _ _ _ _ _ us hl => match us, hl with | [_], _ => rfl
  let E_law_bag : Dr l.prog w K mg base "_law_bag" 1 ["script"] (spBag K) := ⟨f9, _, ok_bag F9 T, PySem.W.mg_of X G a9, k9, b9, .nil⟩
  have F10 := fun_mk (st := s_law_draw) l10 c10 k10
  have b10 := F10.binds (ps := ["bag", "limit"]) fun _ _ _ _ _ _ us hl => match us, hl with | [_, _], _ => rfl
  let E_law_draw : Dn l.prog w K mg base "_law_draw" 1 ["bag", "limit"] [] [] spDraw := ⟨f10, _, ok_draw F10 T, PySem.W.mg_of X G a10, k10, b10, .nil⟩
  have F11 := fun_mk (st := s_law_find) l11 c11 k11
  have b11 := F11.binds (ps := ["table", "name", "key"]) fun _ _ _ _ _ _ us hl => match us, hl with | [_, _, _], _ => rfl
  let E_law_find : Dn l.prog w K mg base "_law_find" 1 ["table", "name", "key"] [] [] spFind := ⟨f11, _, ok_law_find F11 T, PySem.W.mg_of X G a11, k11, b11, .nil⟩
  have F12 := fun_mk (st := s_law_put) l12 c12 k12
  have b12 := F12.binds (ps := ["table", "entry"]) fun _ _ _ _ _ _ us hl => match us, hl with | [_, _], _ => rfl
  let E_law_put : Dn l.prog w K mg base "_law_put" 2 ["table", "entry"] [] [] spPut := ⟨f12, _, ok_put F12 T E_law_find, PySem.W.mg_of X G a12, k12, b12, .nil⟩
  have F13 := fun_mk (st := s_law_order) l13 c13 k13
  have b13 := F13.binds (ps := ["bag", "ends", "least", "most"]) fun _ _ _ _ _ _ us hl => match us, hl with | [_, _, _, _], _ => rfl
  let E_law_order : Dn l.prog w K mg base "_law_order" 2 ["bag", "ends", "least", "most"] [] [] spOrd := ⟨f13, _, ok_lorder F13 T E_law_draw, PySem.W.mg_of X G a13, k13, b13, .nil⟩
  have F14 := fun_mk (st := s_law_wide_order) l14 c14 k14
  have b14 := F14.binds (ps := ["bag", "ends", "least", "most"]) fun _ _ _ _ _ _ us hl => match us, hl with | [_, _, _, _], _ => rfl
  let E_law_wide_order : Dn l.prog w K mg base "_law_wide_order" 3 ["bag", "ends", "least", "most"] [] [] spWide := ⟨f14, _, ok_wide F14 T E_law_draw E_law_order, PySem.W.mg_of X G a14, k14, b14, .nil⟩
  have F15 := fun_mk (st := s_law_answer) l15 c15 k15
  have b15 := F15.binds (ps := ["world", "name", "key"]) fun _ _ _ _ _ _ us hl => match us, hl with | [_, _, _], _ => rfl
  let E_law_answer : Dn l.prog w K mg base "_law_answer" 1 ["world", "name", "key"] [] [] (spAns l.prog w) := ⟨f15, _, ok_answer F15 T, PySem.W.mg_of X G a15, k15, b15, .nil⟩
  have F16 := fun_mk (st := s_law_true) l16 c16 k16
  have b16 := F16.binds (ps := ["events", "world"]) fun _ _ _ _ _ _ us hl => match us, hl with | [_, _], _ => rfl
  let E_law_true : Dn l.prog w K mg base "_law_true" 2 ["events", "world"] [] [] (spTrue l.prog w) := ⟨f16, _, ok_true F16 T E_law_answer, PySem.W.mg_of X G a16, k16, b16, .nil⟩
  have F17 := fun_mk (st := s_law_made_world) l17 c17 k17
  have b17 := F17.binds (ps := ["bag", "events"]) fun _ _ _ _ _ _ us hl => match us, hl with | [_, _], _ => rfl
  let E_law_made_world : Dn l.prog w K mg base "_law_made_world" 3 ["bag", "events"] [] [] (spMade l.prog w) := ⟨f17, _, ok_made F17 T E_law_draw E_law_true, PySem.W.mg_of X G a17, k17, b17, .nil⟩
  have F18 := fun_mk (st := s_law_order_of) l18 c18 k18
  have b18 := F18.binds (ps := ["events"]) fun _ _ _ _ _ _ us hl => match us, hl with | [_], _ => rfl
  let E_law_order_of : Dn l.prog w K mg base "_law_order_of" 5 ["events"] [] [] (spOrderOf C_Order C_Event) := ⟨f18, _, ok_order_of F18 (dv := []) (dw := []) T M_Event M_Order, PySem.W.mg_of X G a18, k18, b18, .nil⟩
  have F19 := fun_mk (st := s_law_is_whole) l19 c19 k19
  have b19 := F19.binds (ps := ["thing"]) fun _ _ _ _ _ _ us hl => match us, hl with | [_], _ => rfl
  let E_law_is_whole : Dn l.prog w K mg base "_law_is_whole" 1 ["thing"] [] [] spWhole := ⟨f19, _, ok_lwhole F19 T, PySem.W.mg_of X G a19, k19, b19, .nil⟩
  have F20 := fun_mk (st := s_law_is_entry) l20 c20 k20
  have b20 := F20.binds (ps := ["thing"]) fun _ _ _ _ _ _ us hl => match us, hl with | [_], _ => rfl
  let E_law_is_entry : Dn l.prog w K mg base "_law_is_entry" 2 ["thing"] [] [] spEntry := ⟨f20, _, ok_entry F20 T E_law_is_whole, PySem.W.mg_of X G a20, k20, b20, .nil⟩
  have F21 := fun_mk (st := s_law_are_entries) l21 c21 k21
  have b21 := F21.binds (ps := ["thing"]) fun _ _ _ _ _ _ us hl => match us, hl with | [_], _ => rfl
  let E_law_are_entries : Dn l.prog w K mg base "_law_are_entries" 3 ["thing"] [] [] spEntries := ⟨f21, _, ok_entries F21 T E_law_is_entry, PySem.W.mg_of X G a21, k21, b21, .nil⟩
  have F22 := fun_mk (st := s_law_walk) l22 c22 k22
  have b22 := F22.binds (ps := ["events", "tables"]) fun _ _ _ _ _ _ us hl => match us, hl with | [_, _], _ => rfl
  let E_law_walk : Dn l.prog w K mg base "_law_walk" 2 ["events", "tables"] [] [] spWalkL := ⟨f22, _, ok_lwalk F22 T E_law_find, PySem.W.mg_of X G a22, k22, b22, .nil⟩
  have F23 := fun_mk (st := s_law_due_play) l23 c23 k23
  have b23 := F23.binds (ps := ["events", "tables"]) fun _ _ _ _ _ _ us hl => match us, hl with | [_, _], _ => rfl
  let E_law_due_play : Dn l.prog w K mg base "_law_due_play" 3 ["events", "tables"] [] [] spPlayL := ⟨f23, _, ok_due F23 T E_law_walk, PySem.W.mg_of X G a23, k23, b23, .nil⟩
  have F24 := fun_mk (st := s_law_grown) l24 c24 k24
  have b24 := F24.binds (ps := ["bag", "events", "world", "tables"]) fun _ _ _ _ _ _ us hl => match us, hl with | [_, _, _, _], _ => rfl
  let E_law_grown : Dn l.prog w K mg base "_law_grown" 3 ["bag", "events", "world", "tables"] [] [] (spGrown l.prog w) := ⟨f24, _, ok_grown F24 T E_law_draw E_law_answer E_law_true, PySem.W.mg_of X G a24, k24, b24, .nil⟩
  exact ok_law (fun_mk (st := s_law) l25 c25 k25) T E_law_bag E_law_draw E_law_wide_order E_law_made_world E_law_order_of E_law_true E_law_grown E_with_answer E_law_put E_law_are_entries E_entry_value E_play E_law_due_play
theorem walk {l : PySem.W.OpenLaw} {q : Program} {loose : List Str} {XP : (Str → Option Value) → Heap → Prop} {YP : World → Heap → Prop} {d : DefRec} {K : Params → PySem.W.Frag} (hn : l.most = some 63) (hdf : d.params.defaults = [])
    (hY : ∀ (w : World) (h : Heap), YP w h → (K w.params).In h)
    (F : ∀ (w : World) (mg : Str → Option Value) (fa : Addr) (h : Heap), (K w.params).In h → h.Ns mainGlobals mg → mg d.name = some (.ref fa) →
      ∃ fd : FuncData, (∀ (s : Shared) (u : Value), BindsTo s fd ⟨[u], []⟩ [("script", u)]) ∧ ∀ base : Heap, (K w.params).In base → base.Ns mainGlobals mg → FnOk l.prog w (K w.params) mg base CX0 6 fa fd ["script"] (spLaw (K w.params))) :
    PySem.W.WalkO q loose XP YP l.row.toRowW d [] (fun f vs => PySem.call f vs) :=
  L2.walk_of (n := 63) (k := 6) (x := "script") (CX := fun _ => CX0) (sp := fun w => spLaw (K w.params)) hn (by decide) hdf ⟨rfl, by decide, by decide⟩ hY F (fun _ _ a ns hl _ hS => ⟨a, ns, rfl, hS, hl, fun _ => rfl⟩) fun _ _ _ _ _ z => z
end Toy
open PySem PySem.W PyProof.Rows in
set_option maxRecDepth 100000 in
set_option maxHeartbeats 0 in
theorem PySem.Challenge.cw_askedtrue_k21_whole_plays_of_tables_of_a_holds : PySem.Challenge.rw_askedtrue_k21_whole_plays_of_tables_of_a.Holds := by
  w_on; o_law; k_head; (case hw => w_witness2)
  k_fill
  refine Toy.walk (l := PySem.Challenge.rw_askedtrue_k21_whole_plays_of_tables_of_a) rfl rfl (fun w h Y => PySem.W.kIn_of Y) ?F
  case F =>
    intro w mg fa h KX G hmg
    refine' Toy.all_mk KX G hmg ?aC_Event ?pg_Event ?hd_Event ?po_Event ?sa_Event ?na_Event_name ?na_Event_end ?na_Event_kind ?na_Event_needs ?mk_Event ?in_Event ?fn_Event ?kp_Event ?aC_Order ?pg_Order ?hd_Order ?po_Order ?sa_Order ?na_Order_events ?mk_Order ?in_Order ?fn_Order ?kp_Order ?a0 ?l0 ?c0 ?k0 ?a1 ?l1 ?c1 ?k1 ?l2 ?c2 ?k2 ?lT2 ?a3 ?l3 ?c3 ?k3 ?l4 ?c4 ?k4 ?a5 ?l5 ?c5 ?k5 ?a6 ?l6 ?c6 ?k6 ?a7 ?l7 ?c7 ?k7 ?a8 ?l8 ?c8 ?k8 ?a9 ?l9 ?c9 ?k9 ?a10 ?l10 ?c10 ?k10 ?a11 ?l11 ?c11 ?k11 ?a12 ?l12 ?c12 ?k12 ?a13 ?l13 ?c13 ?k13 ?a14 ?l14 ?c14 ?k14 ?a15 ?l15 ?c15 ?k15 ?a16 ?l16 ?c16 ?k16 ?a17 ?l17 ?c17 ?k17 ?a18 ?l18 ?c18 ?k18 ?a19 ?l19 ?c19 ?k19 ?a20 ?l20 ?c20 ?k20 ?a21 ?l21 ?c21 ?k21 ?a22 ?l22 ?c22 ?k22 ?a23 ?l23 ?c23 ?k23 ?a24 ?l24 ?c24 ?k24 ?a25 ?l25 ?c25 ?k25 ?zLETTERS ?zSIGNS ?zENDS ?zNEEDS ?zEVENTS ?zKINDS ?lK ?z_len ?z_abs ?z_sum ?z_max ?z_min ?z_all ?z_any ?z_sorted ?z_isinstance ?z_int ?z_bool ?z_str ?z_list ?z_tuple ?z_range ?z_enumerate ?z_dict
    (case aC_Event => k_is)
    (case pg_Event => k_is)
    (case hd_Event => k_is)
    (case po_Event => k_is)
    (case sa_Event => k_is)
    (case na_Event_name => k_is)
    (case na_Event_end => k_is)
    (case na_Event_kind => k_is)
    (case na_Event_needs => k_is)
    (case mk_Event => k_is)
    (case in_Event => k_is)
    (case fn_Event => k_is)
    (case kp_Event => k_is)
    (case aC_Order => k_is)
    (case pg_Order => k_is)
    (case hd_Order => k_is)
    (case po_Order => k_is)
    (case sa_Order => k_is)
    (case na_Order_events => k_is)
    (case mk_Order => k_is)
    (case in_Order => k_is)
    (case fn_Order => k_is)
    (case kp_Order => k_is)
    (case a0 => k_is)
    (case l0 => k_is)
    (case c0 => k_is)
    (case k0 => k_is)
    (case a1 => k_is)
    (case l1 => k_is)
    (case c1 => k_is)
    (case k1 => k_is)
    (case l2 => k_is)
    (case c2 => k_is)
    (case k2 => k_is)
    (case lT2 => k_is)
    (case a3 => k_is)
    (case l3 => k_is)
    (case c3 => k_is)
    (case k3 => k_is)
    (case l4 => k_is)
    (case c4 => k_is)
    (case k4 => k_is)
    (case a5 => k_is)
    (case l5 => k_is)
    (case c5 => k_is)
    (case k5 => k_is)
    (case a6 => k_is)
    (case l6 => k_is)
    (case c6 => k_is)
    (case k6 => k_is)
    (case a7 => k_is)
    (case l7 => k_is)
    (case c7 => k_is)
    (case k7 => k_is)
    (case a8 => k_is)
    (case l8 => k_is)
    (case c8 => k_is)
    (case k8 => k_is)
    (case a9 => k_is)
    (case l9 => k_is)
    (case c9 => k_is)
    (case k9 => k_is)
    (case a10 => k_is)
    (case l10 => k_is)
    (case c10 => k_is)
    (case k10 => k_is)
    (case a11 => k_is)
    (case l11 => k_is)
    (case c11 => k_is)
    (case k11 => k_is)
    (case a12 => k_is)
    (case l12 => k_is)
    (case c12 => k_is)
    (case k12 => k_is)
    (case a13 => k_is)
    (case l13 => k_is)
    (case c13 => k_is)
    (case k13 => k_is)
    (case a14 => k_is)
    (case l14 => k_is)
    (case c14 => k_is)
    (case k14 => k_is)
    (case a15 => k_is)
    (case l15 => k_is)
    (case c15 => k_is)
    (case k15 => k_is)
    (case a16 => k_is)
    (case l16 => k_is)
    (case c16 => k_is)
    (case k16 => k_is)
    (case a17 => k_is)
    (case l17 => k_is)
    (case c17 => k_is)
    (case k17 => k_is)
    (case a18 => k_is)
    (case l18 => k_is)
    (case c18 => k_is)
    (case k18 => k_is)
    (case a19 => k_is)
    (case l19 => k_is)
    (case c19 => k_is)
    (case k19 => k_is)
    (case a20 => k_is)
    (case l20 => k_is)
    (case c20 => k_is)
    (case k20 => k_is)
    (case a21 => k_is)
    (case l21 => k_is)
    (case c21 => k_is)
    (case k21 => k_is)
    (case a22 => k_is)
    (case l22 => k_is)
    (case c22 => k_is)
    (case k22 => k_is)
    (case a23 => k_is)
    (case l23 => k_is)
    (case c23 => k_is)
    (case k23 => k_is)
    (case a24 => k_is)
    (case l24 => k_is)
    (case c24 => k_is)
    (case k24 => k_is)
    (case a25 => k_is)
    (case l25 => k_is)
    (case c25 => k_is)
    (case k25 => k_is)
    (case zLETTERS => k_is)
    (case zSIGNS => k_is)
    (case zENDS => k_is)
    (case zNEEDS => k_is)
    (case zEVENTS => k_is)
    (case zKINDS => k_is)
    (case lK => k_is)
    (case z_len => k_is)
    (case z_abs => k_is)
    (case z_sum => k_is)
    (case z_max => k_is)
    (case z_min => k_is)
    (case z_all => k_is)
    (case z_any => k_is)
    (case z_sorted => k_is)
    (case z_isinstance => k_is)
    (case z_int => k_is)
    (case z_bool => k_is)
    (case z_str => k_is)
    (case z_list => k_is)
    (case z_tuple => k_is)
    (case z_range => k_is)
    (case z_enumerate => k_is)
    (case z_dict => k_is)
