import PyProof.Rows.All
import Wide.All
import OpenK.AllK
import Wide.FinOn
import HandS.ForMost
import HandS.Wide
import KE.KDictKeyed
import KE.KeyNested
import HandS.IsInst
import HandS.Deep
import HandS.TupAny
import KE.SortData
import HandS.Steps
import KE.KDictSum
import HandS.Defaults
import HandS.Dict
import KE.GoesEnum
import KE.GoesMore
import HandS.Iter
import HandS.SortKw
import HandS.DictEq
import KE.KEqDict
import HandS.Conv
import HandS.DictComp
import HandS.ExcInit
import HandS.ExcField
import HandS.CallSlots
import HandS.WordsExc
import HandS.ClsMeth
import HandS.List
import PySem.Challenge.RW_askedtrue_k04_whole_false_asks_of_every
set_option Elab.async false
set_option linter.all false
set_option maxRecDepth 100000
set_option maxHeartbeats 4000000
/-! L3: data in place of heaps: what a reading hands on, said of plain data. -/
namespace L3
open PySem L2

/-! ### data -/
inductive D where
  | non | bl (b : Bool) | int (i : Int) | str (s : Str) | lst (xs : List D) | tup (xs : List D) | obj (C : Addr) (fs : List (Str × D)) | adr (a : Addr) | ty (n : String) | dct (kvs : List (L2.Key × D)) | dcn (pr : Program) (wd : World) (kvs : List (D × D))

mutual
/-- a key of a dict as the library tells it -/
def nk : D → NestedKey
  | .int i => .num i
  | .str s => .text s
  | .tup xs => .tup (nkAll xs)
  | _ => .none
def nkAll : List D → List NestedKey
  | [] => []
  | x :: xs => nk x :: nkAll xs
end
mutual
def nkOk : D → Bool
  | .non => true
  | .int _ => true
  | .str _ => true
  | .tup xs => nkOkAll xs
  | _ => false
def nkOkAll : List D → Bool
  | [] => true
  | x :: xs => nkOk x && nkOkAll xs
end
/-- fit for a key of a dict -/
def keyD : D → Bool
  | .tup xs => nkOkAll xs && decide ((nk (.tup xs)).depth ≤ 8)
  | _ => false
def DictBare (pr : Program) (wd : World) (xs : List (NestedKey × Addr × Value)) (a : Addr) (h : Heap) : Prop :=
  ∃ o es ep, h.get? a = some o ∧ o.ExactDict ∧ o.data = .dict es ep ∧ es.toList = xs.map (entryOfKey (nestedKind pr wd)) ∧ (xs.map (·.1)).Nodup
mutual
inductive Rp (K : PySem.W.Frag) (H : Hp) : V → D → Prop
  | non : Rp K H .non .non
  | bl (b : Bool) : Rp K H (.bl b) (.bl b)
  | int (i : Int) : Rp K H (.int i) (.int i)
  | str (x : Str) : Rp K H (.str x) (.str x)
  | lst {a : Addr} {xs : List V} {ds : List D} : Rd H a (.lst xs) → RpAll K H xs ds → Rp K H (.ref a) (.lst ds)
  | tup {a : Addr} {xs : List V} {ds : List D} : SqT K H a xs → RpAll K H xs ds → Rp K H (.ref a) (.tup ds)
  | obj {a C dx : Addr} {fs : List (Str × V)} {ds : List (Str × D)} : H a = some (.ins C dx fs) → RpFs K H fs ds → Rp K H (.ref a) (.obj C ds)
  | adr (a : Addr) : Rp K H (.ref a) (.adr a)
  | ty (n : String) : Rp K H (.ty n) (.ty n)
  | dct {a : Addr} {xs : List (L2.Key × V)} {kvs : List (L2.Key × D)} : Rd H a (.dK xs) → RpKs K H xs kvs → Rp K H (.ref a) (.dct kvs)
  | dcn {a : Addr} {pr : Program} {wd : World} {xs : List (NestedKey × Addr × Value)} {kvs : List (D × D)} : Rd H a (.ext (DictBare pr wd xs a)) → (a == sysModules) = false → RpNs K H xs kvs → Rp K H (.ref a) (.dcn pr wd kvs)
inductive RpAll (K : PySem.W.Frag) (H : Hp) : List V → List D → Prop
  | nil : RpAll K H [] []
  | cons {v : V} {vs : List V} {d : D} {ds : List D} : Rp K H v d → RpAll K H vs ds → RpAll K H (v :: vs) (d :: ds)
inductive RpFs (K : PySem.W.Frag) (H : Hp) : List (Str × V) → List (Str × D) → Prop
  | nil : RpFs K H [] []
  | cons {x : Str} {v : V} {vs : List (Str × V)} {d : D} {ds : List (Str × D)} : Rp K H v d → RpFs K H vs ds → RpFs K H ((x, v) :: vs) ((x, d) :: ds)
inductive RpKs (K : PySem.W.Frag) (H : Hp) : List (L2.Key × V) → List (L2.Key × D) → Prop
  | nil : RpKs K H [] []
  | cons {x : L2.Key} {v : V} {vs : List (L2.Key × V)} {d : D} {ds : List (L2.Key × D)} : Rp K H v d → RpKs K H vs ds → RpKs K H ((x, v) :: vs) ((x, d) :: ds)
inductive RpNs (K : PySem.W.Frag) (H : Hp) : List (NestedKey × Addr × Value) → List (D × D) → Prop
  | nil : RpNs K H [] []
  | cons {x : NestedKey × Addr × Value} {v : V} {xs : List (NestedKey × Addr × Value)} {kd d : D} {ds : List (D × D)} : keyD kd = true → x.1 = nk kd → Rp K H (.ref x.2.1) kd → RelV v x.2.2 → Rp K H v d → RpNs K H xs ds → RpNs K H (x :: xs) ((kd, d) :: ds)
end

theorem same_rd {H H' : Hp} {a : Addr} {u : HO} (e : Same H H') (h : Rd H a u) : Rd H' a u := by
  rcases h with h | ⟨o, h⟩
  · exact .inl (e a _ h)
  · exact .inr ⟨o, e a _ h⟩
theorem same_l {K : PySem.W.Frag} {H H' : Hp} {a : Addr} {xs : List V} (e : Same H H') (h : SqL K H a xs) : SqL K H' a xs := by
  rcases h with h | h
  · exact .inl (same_rd e h)
  · exact .inr h
theorem same_t {K : PySem.W.Frag} {H H' : Hp} {a : Addr} {xs : List V} (e : Same H H') (h : SqT K H a xs) : SqT K H' a xs := by
  rcases h with h | h
  · exact .inl (same_rd e h)
  · exact .inr h

section
variable {K : PySem.W.Frag} {H H' : Hp}
mutual
theorem Rp.mono (e : Same H H') : ∀ {v : V} {d : D}, Rp K H v d → Rp K H' v d
  | _, _, .non => .non
  | _, _, .bl b => .bl b
  | _, _, .int i => .int i
  | _, _, .str x => .str x
  | _, _, .lst h r => .lst (same_rd e h) (RpAll.mono e r)
  | _, _, .tup h r => .tup (same_t e h) (RpAll.mono e r)
  | _, _, .obj h r => .obj (e _ _ h) (RpFs.mono e r)
  | _, _, .adr a => .adr a
  | _, _, .ty n => .ty n
  | _, _, .dct h r => .dct (same_rd e h) (RpKs.mono e r)
  | _, _, .dcn h s r => .dcn (same_rd e h) s (RpNs.mono e r)
theorem RpAll.mono (e : Same H H') : ∀ {vs : List V} {ds : List D}, RpAll K H vs ds → RpAll K H' vs ds
  | _, _, .nil => .nil
  | _, _, .cons h r => .cons (Rp.mono e h) (RpAll.mono e r)
theorem RpFs.mono (e : Same H H') : ∀ {vs : List (Str × V)} {ds : List (Str × D)}, RpFs K H vs ds → RpFs K H' vs ds
  | _, _, .nil => .nil
  | _, _, .cons h r => .cons (Rp.mono e h) (RpFs.mono e r)
theorem RpKs.mono (e : Same H H') : ∀ {vs : List (L2.Key × V)} {ds : List (L2.Key × D)}, RpKs K H vs ds → RpKs K H' vs ds
  | _, _, .nil => .nil
  | _, _, .cons h r => .cons (Rp.mono e h) (RpKs.mono e r)
theorem RpNs.mono (e : Same H H') : ∀ {vs : List (NestedKey × Addr × Value)} {ds : List (D × D)}, RpNs K H vs ds → RpNs K H' vs ds
  | _, _, .nil => .nil
  | _, _, .cons a b h w v r => .cons a b (Rp.mono e h) w (Rp.mono e v) (RpNs.mono e r)
end
theorem RpAll.length : ∀ {vs : List V} {ds : List D}, RpAll K H vs ds → vs.length = ds.length
  | _, _, .nil => rfl
  | _, _, .cons _ r => by rw [List.length_cons, List.length_cons, RpAll.length r]
theorem RpAll.get : ∀ {vs : List V} {ds : List D} {i : Nat} {v : V}, RpAll K H vs ds → vs[i]? = some v → ∃ d, ds[i]? = some d ∧ Rp K H v d
  | _, _, _, _, .nil, e => by simp at e
  | _, _, 0, _, .cons h _, e => by simp at e; subst e; exact ⟨_, rfl, h⟩
  | _, _, i + 1, _, .cons _ r, e => by
    obtain ⟨d, h1, h2⟩ := RpAll.get (i := i) r (by simpa using e)
    exact ⟨d, by simpa using h1, h2⟩
theorem RpAll.get' : ∀ {vs : List V} {ds : List D} {i : Nat} {d : D}, RpAll K H vs ds → ds[i]? = some d → ∃ v, vs[i]? = some v ∧ Rp K H v d
  | _, _, _, _, .nil, e => by simp at e
  | _, _, 0, _, .cons h _, e => by simp at e; subst e; exact ⟨_, rfl, h⟩
  | _, _, i + 1, _, .cons _ r, e => by
    obtain ⟨d, h1, h2⟩ := RpAll.get' (i := i) r (by simpa using e)
    exact ⟨d, by simpa using h1, h2⟩
theorem RpAll.append : ∀ {vs ws : List V} {ds es : List D}, RpAll K H vs ds → RpAll K H ws es → RpAll K H (vs ++ ws) (ds ++ es)
  | _, _, _, _, .nil, s => s
  | _, _, _, _, .cons h r, s => .cons h (RpAll.append r s)
theorem RpAll.take : ∀ {vs : List V} {ds : List D} (n : Nat), RpAll K H vs ds → RpAll K H (vs.take n) (ds.take n)
  | _, _, 0, _ => .nil
  | _, _, _ + 1, .nil => .nil
  | _, _, n + 1, .cons h r => .cons h (RpAll.take n r)
theorem RpAll.drop : ∀ {vs : List V} {ds : List D} (n : Nat), RpAll K H vs ds → RpAll K H (vs.drop n) (ds.drop n)
  | _, _, 0, r => r
  | _, _, _ + 1, .nil => .nil
  | _, _, n + 1, .cons _ r => RpAll.drop n r
theorem RpAll.set {v : V} {d : D} (h : Rp K H v d) : ∀ {vs : List V} {ds : List D} (i : Nat), RpAll K H vs ds → RpAll K H (vs.set i v) (ds.set i d)
  | _, _, _, .nil => .nil
  | _, _, 0, .cons _ r => .cons h r
  | _, _, i + 1, .cons q r => .cons q (RpAll.set h i r)
theorem RpAll.eraseIdx : ∀ {vs : List V} {ds : List D} (i : Nat), RpAll K H vs ds → RpAll K H (vs.eraseIdx i) (ds.eraseIdx i)
  | _, _, _, .nil => .nil
  | _, _, 0, .cons _ r => r
  | _, _, i + 1, .cons q r => .cons q (RpAll.eraseIdx i r)
theorem RpAll.ints : ∀ {vs : List V} {ns : List Int}, RpAll K H vs (ns.map D.int) → vs = ns.map V.int
  | _, [], h => by cases h; rfl
  | _, n :: ns, h => by
    cases h with
    | cons h r => cases h; rw [RpAll.ints r]; rfl
theorem RpAll.ofInts : ∀ (ns : List Int), RpAll K H (ns.map V.int) (ns.map D.int)
  | [] => .nil
  | n :: ns => .cons (.int n) (RpAll.ofInts ns)
end

/-! ### hidden addresses -/
def hid (O : List Addr) (H : Hp) : Hp := fun a => if a ∈ O then none else H a
theorem hid_in {O : List Addr} {H : Hp} {a : Addr} (h : a ∈ O) : hid O H a = none := if_pos h
theorem hid_out {O : List Addr} {H : Hp} {a : Addr} (h : a ∉ O) : hid O H a = H a := if_neg h
theorem hid_some {O : List Addr} {H : Hp} {a : Addr} {o : HO} : hid O H a = some o ↔ a ∉ O ∧ H a = some o := by
  unfold hid
  by_cases h : a ∈ O
  · rw [if_pos h]; exact ⟨(fun e => nomatch e), fun e => absurd h e.1⟩
  · rw [if_neg h]; exact ⟨fun e => ⟨h, e⟩, fun e => e.2⟩
theorem hid_nil {H : Hp} : hid [] H = H := by
  funext a; exact hid_out (by simp)
theorem same_hid {O : List Addr} {H : Hp} : Same (hid O H) H := fun a o e => (hid_some.mp e).2
theorem same_hid_sub {O O' : List Addr} {H : Hp} (h : ∀ a, a ∈ O → a ∈ O') : Same (hid O' H) (hid O H) := fun a o e => by
  obtain ⟨h1, h2⟩ := hid_some.mp e
  exact hid_some.mpr ⟨fun q => h1 (h a q), h2⟩
theorem same_hid_of {O : List Addr} {H H' : Hp} (e : Same H H') : Same (hid O H) (hid O H') := fun a o q => by
  obtain ⟨h1, h2⟩ := hid_some.mp q
  exact hid_some.mpr ⟨h1, e a o h2⟩
/-- hiding more of two heaps that agree -/
theorem same_hid_more {O B : List Addr} {H H' : Hp} (h : ∀ a, a ∈ B → a ∈ O) (e : Same (hid B H) (hid B H')) : Same (hid O H) (hid O H') := fun a o q => by
  obtain ⟨h1, h2⟩ := hid_some.mp q
  exact hid_some.mpr ⟨h1, (hid_some.mp (e a o (hid_some.mpr ⟨fun q => h1 (h a q), h2⟩))).2⟩
theorem hid_upd_in {O : List Addr} {H : Hp} {a : Addr} {o : HO} (h : a ∈ O) : hid O (upd H a o) = hid O H := by
  funext b
  unfold hid
  by_cases hb : b ∈ O
  · rw [if_pos hb, if_pos hb]
  · rw [if_neg hb, if_neg hb, upd_ne (fun e => hb (by rw [e]; exact h))]
theorem same_upd_new {H : Hp} {p : Addr} {o : HO} (h : H p = none) : Same H (upd H p o) := fun b u e => by
  rw [upd_ne (ne_of_none e h)]; exact e
theorem hid_new_in {O : List Addr} {H : Hp} {p : Addr} {o : HO} (h : H p = none) : hid (p :: O) (upd H p o) = hid O H := by
  funext b
  unfold hid
  by_cases hb : b = p
  · subst hb
    rw [if_pos List.mem_cons_self]
    by_cases h2 : b ∈ O
    · rw [if_pos h2]
    · rw [if_neg h2, h]
  · by_cases h2 : b ∈ O
    · rw [if_pos (List.mem_cons_of_mem _ h2), if_pos h2]
    · rw [if_neg (fun q => by rcases List.mem_cons.mp q with e | e; exact hb e; exact h2 e), if_neg h2, upd_ne hb]

/-! ### the bag: a list of a list of non-negative ints, a turn, a rest -/
def BagOk (b q : Addr) (n : Nat) (H : Hp) : Prop :=
  ∃ (t r : Int) (cs : List Int), H b = some (.lst [.ref q, .int t, .int r]) ∧ H q = some (.lst (cs.map V.int)) ∧ cs ≠ [] ∧ (∀ c ∈ cs, 0 ≤ c) ∧ cs.length ≤ 63 ∧ 0 ≤ t ∧ t ≤ n ∧ 0 ≤ r
theorem BagOk.move {b q : Addr} {n : Nat} {H H' : Hp} (h : BagOk b q n H) (e : ∀ o, H b = some o → H' b = some o) (e2 : ∀ o, H q = some o → H' q = some o) : BagOk b q n H' := by
  obtain ⟨t, r, cs, h1, h2, h3⟩ := h
  exact ⟨t, r, cs, e _ h1, e2 _ h2, h3⟩
theorem BagOk.le {b q : Addr} {n m : Nat} {H : Hp} (h : BagOk b q n H) (hn : n ≤ m) : BagOk b q m H := by
  obtain ⟨t, r, cs, h1, h2, h4, h5, h6, h7, h8, h9⟩ := h
  exact ⟨t, r, cs, h1, h2, h4, h5, h6, h7, by omega, h9⟩
theorem BagOk.lst {b q : Addr} {n : Nat} {H : Hp} (h : BagOk b q n H) : ∃ xs, H b = some (.lst xs) := by
  obtain ⟨t, r, cs, h1, _⟩ := h
  exact ⟨_, h1⟩

/-! ### the context, slots -/
structure Ctx where
  pr : Program
  wd : World
  K : PySem.W.Frag
  /-- owned by callers -/
  O : List Addr
  bag : Option (Addr × Addr)
  /-- the heap at the entry -/
  H0 : Hp
def Ctx.B (c : Ctx) : List Addr := (c.bag.map (·.1)).toList
def Ctx.J (c : Ctx) (n : Nat) (H : Hp) : Prop := ∀ b q, c.bag = some (b, q) → BagOk b q n H
inductive SD where
  | un
  | val (d : D)
  | own (ds : List D)
  | dic (kvs : List (D × D))
  | dk (kvs : List (L2.Key × D))
  | tw (l : Addr) (kvs : List (D × D)) (ds : List D)
/-- one entry -/
def EntD (K : PySem.W.Frag) (H : Hp) (kv : D × D) (x : NestedKey × Addr × Value) : Prop := keyD kv.1 = true ∧ x.1 = nk kv.1 ∧ Rp K H (.ref x.2.1) kv.1 ∧ ∃ v, RelV v x.2.2 ∧ Rp K H v kv.2
def NDict (pr : Program) (wd : World) (K : PySem.W.Frag) (O : List Addr) (H : Hp) (l : Addr) (kvs : List (D × D)) : Prop :=
  ∃ xs, H l = some (.ext (DictBare pr wd xs l)) ∧ (l == sysModules) = false ∧ Paired (EntD K (hid O H)) kvs xs
theorem EntD.mono {K : PySem.W.Frag} {H H' : Hp} {kv : D × D} {x : NestedKey × Addr × Value} (e : Same H H') (h : EntD K H kv x) : EntD K H' kv x := by
  obtain ⟨h1, h2, h3, v, h4, h5⟩ := h
  exact ⟨h1, h2, h3.mono e, v, h4, h5.mono e⟩
theorem Paired.imp' {α β : Type} {R S : α → β → Prop} (f : ∀ a b, R a b → S a b) : ∀ {xs : List α} {ys : List β}, Paired R xs ys → Paired S xs ys
  | _, _, .nil => .nil
  | _, _, .cons h t => .cons (f _ _ h) (Paired.imp' f t)
theorem NDict.move {pr : Program} {wd : World} {K : PySem.W.Frag} {O O' : List Addr} {H H' : Hp} {l : Addr} {kvs : List (D × D)} (h : NDict pr wd K O H l kvs) (hl : H' l = H l) (e : Same (hid O H) (hid O' H')) : NDict pr wd K O' H' l kvs := by
  obtain ⟨xs, h1, h2, h3⟩ := h
  exact ⟨xs, hl.trans h1, h2, Paired.imp' (fun _ _ q => q.mono e) h3⟩
theorem RpNs.pair {K : PySem.W.Frag} {H : Hp} : ∀ {xs : List (NestedKey × Addr × Value)} {kvs : List (D × D)}, RpNs K H xs kvs → Paired (EntD K H) kvs xs
  | _, _, .nil => .nil
  | _, _, .cons a b h w v r => .cons ⟨a, b, h, _, w, v⟩ (RpNs.pair r)
theorem RpNs.of {K : PySem.W.Frag} {H : Hp} : ∀ {kvs : List (D × D)} {xs : List (NestedKey × Addr × Value)}, Paired (EntD K H) kvs xs → RpNs K H xs kvs
  | _, _, .nil => .nil
  | (kd, d) :: _, _, .cons ⟨a, b, h, _, w, v⟩ r => .cons a b h w v (RpNs.of r)
/-- a tuple whose head is a dict of one's own -/
def TDict (pr : Program) (wd : World) (K : PySem.W.Frag) (O : List Addr) (H : Hp) (t l : Addr) (kvs : List (D × D)) (ds : List D) : Prop :=
  ∃ vs, SqT K (hid O H) t (.ref l :: vs) ∧ RpAll K (hid O H) vs ds ∧ NDict pr wd K O H l kvs
theorem TDict.move {pr : Program} {wd : World} {K : PySem.W.Frag} {O O' : List Addr} {H H' : Hp} {t l : Addr} {kvs : List (D × D)} {ds : List D} (h : TDict pr wd K O H t l kvs ds) (hl : H' l = H l) (e : Same (hid O H) (hid O' H')) : TDict pr wd K O' H' t l kvs ds := by
  obtain ⟨vs, h1, h2, h3⟩ := h
  exact ⟨vs, same_t e h1, h2.mono e, h3.move hl e⟩
/-- a dict of one's own whose keys are ints and texts -/
def KDict (pr : Program) (wd : World) (K : PySem.W.Frag) (O : List Addr) (H : Hp) (l : Addr) (kvs : List (L2.Key × D)) : Prop := ∃ xs, H l = some (.dK xs) ∧ RpKs K (hid O H) xs kvs
theorem KDict.move {pr : Program} {wd : World} {K : PySem.W.Frag} {O O' : List Addr} {H H' : Hp} {l : Addr} {kvs : List (L2.Key × D)} (h : KDict pr wd K O H l kvs) (hl : H' l = H l) (e : Same (hid O H) (hid O' H')) : KDict pr wd K O' H' l kvs := by
  obtain ⟨xs, h1, h3⟩ := h
  exact ⟨xs, hl.trans h1, h3.mono e⟩
inductive Slots (pr : Program) (wd : World) (K : PySem.W.Frag) (O : List Addr) (H : Hp) : List (Option V) → List SD → List Addr → Prop
  | nil : Slots pr wd K O H [] [] []
  | un {x : Option V} {σ : List (Option V)} {ρ : List SD} {L : List Addr} : Slots pr wd K O H σ ρ L → Slots pr wd K O H (x :: σ) (.un :: ρ) L
  | val {v : V} {d : D} {σ : List (Option V)} {ρ : List SD} {L : List Addr} : Rp K (hid O H) v d → Slots pr wd K O H σ ρ L → Slots pr wd K O H (some v :: σ) (.val d :: ρ) L
  | own {l : Addr} {xs : List V} {ds : List D} {σ : List (Option V)} {ρ : List SD} {L : List Addr} : H l = some (.lst xs) → RpAll K (hid O H) xs ds → Slots pr wd K O H σ ρ L → Slots pr wd K O H (some (.ref l) :: σ) (.own ds :: ρ) (l :: L)
  | dic {l : Addr} {kvs : List (D × D)} {σ : List (Option V)} {ρ : List SD} {L : List Addr} : NDict pr wd K O H l kvs → Slots pr wd K O H σ ρ L → Slots pr wd K O H (some (.ref l) :: σ) (.dic kvs :: ρ) (l :: L)
  | dk {l : Addr} {kvs : List (L2.Key × D)} {σ : List (Option V)} {ρ : List SD} {L : List Addr} : KDict pr wd K O H l kvs → Slots pr wd K O H σ ρ L → Slots pr wd K O H (some (.ref l) :: σ) (.dk kvs :: ρ) (l :: L)
  | tw {t l : Addr} {kvs : List (D × D)} {ds : List D} {σ : List (Option V)} {ρ : List SD} {L : List Addr} : TDict pr wd K O H t l kvs ds → Slots pr wd K O H σ ρ L → Slots pr wd K O H (some (.ref t) :: σ) (.tw l kvs ds :: ρ) (l :: L)
/-- P: what has been seen to stand for good -/
structure Env (c : Ctx) (P : Hp) (L : List Addr) (n : Nat) (H : Hp) (σ : List (Option V)) (ρ : List SD) : Prop where
  nd : L.Nodup
  fresh : ∀ l ∈ L, c.H0 l = none ∧ l ∉ c.O
  slots : ∃ Ls, Slots c.pr c.wd c.K (L ++ c.O) H σ ρ Ls ∧ Ls.Sublist L
  lst : ∀ l ∈ L, ∃ o, H l = some o
  bag : c.J n H
  base : Same (hid c.B c.H0) (hid c.B H)
  pers : Same P (hid (L ++ c.O) H)
  bO : ∀ b q, c.bag = some (b, q) → b ∈ c.O ∧ q ∈ c.O ∧ q ≠ b
  al : ∀ o ∈ c.O, H o ≠ none

section
variable {pr : Program} {wd : World} {K : PySem.W.Frag} {O O' : List Addr} {H H' : Hp} {σ : List (Option V)} {ρ : List SD} {L : List Addr}
theorem Slots.len (s : Slots pr wd K O H σ ρ L) : σ.length = ρ.length := by
  induction s with
  | nil => rfl
  | un _ ih => simp [ih]
  | val _ _ ih => simp [ih]
  | own _ _ _ ih => simp [ih]
  | dic _ _ ih => simp [ih]
  | dk _ _ ih => simp [ih]
  | tw _ _ ih => simp [ih]
/-- the owned lists stand, all else that may be seen stands -/
theorem Slots.move (s : Slots pr wd K O H σ ρ L) (hL : ∀ l ∈ L, H' l = H l) (e : Same (hid O H) (hid O' H')) : Slots pr wd K O' H' σ ρ L := by
  induction s with
  | nil => exact .nil
  | un _ ih => exact .un (ih hL)
  | val h _ ih => exact .val (h.mono e) (ih hL)
  | own h1 h2 _ ih => exact .own ((hL _ List.mem_cons_self).trans h1) (h2.mono e) (ih fun l hl => hL l (List.mem_cons_of_mem _ hl))
  | dic h1 _ ih => exact .dic (h1.move (hL _ List.mem_cons_self) e) (ih fun l hl => hL l (List.mem_cons_of_mem _ hl))
  | dk h1 _ ih => exact .dk (h1.move (hL _ List.mem_cons_self) e) (ih fun l hl => hL l (List.mem_cons_of_mem _ hl))
  | tw h1 _ ih => exact .tw (h1.move (hL _ List.mem_cons_self) e) (ih fun l hl => hL l (List.mem_cons_of_mem _ hl))
theorem Slots.get {d : D} : ∀ {σ : List (Option V)} {ρ : List SD} {L : List Addr} {i : Nat}, Slots pr wd K O H σ ρ L → ρ[i]? = some (.val d) → ∃ v, σ[i]? = some (some v) ∧ Rp K (hid O H) v d
  | _, _, _, _, .nil, e => by simp at e
  | _, _, _, 0, .un _, e => by simp at e
  | _, _, _, i + 1, .un s, e => by simpa using Slots.get (i := i) s (by simpa using e)
  | _, _, _, 0, .val h _, e => by simp at e; subst e; exact ⟨_, rfl, h⟩
  | _, _, _, i + 1, .val _ s, e => by simpa using Slots.get (i := i) s (by simpa using e)
  | _, _, _, 0, .own _ _ _, e => by simp at e
  | _, _, _, i + 1, .own _ _ s, e => by simpa using Slots.get (i := i) s (by simpa using e)
  | _, _, _, 0, .dic _ _, e => by simp at e
  | _, _, _, 0, .dk _ _, e => by simp at e
  | _, _, _, 0, .tw _ _, e => by simp at e
  | _, _, _, i + 1, .dic _ s, e => by simpa using Slots.get (i := i) s (by simpa using e)
  | _, _, _, i + 1, .dk _ s, e => by simpa using Slots.get (i := i) s (by simpa using e)
  | _, _, _, i + 1, .tw _ s, e => by simpa using Slots.get (i := i) s (by simpa using e)
theorem Slots.getO {ds : List D} : ∀ {σ : List (Option V)} {ρ : List SD} {L : List Addr} {i : Nat}, Slots pr wd K O H σ ρ L → ρ[i]? = some (.own ds) → ∃ l xs, σ[i]? = some (some (.ref l)) ∧ l ∈ L ∧ H l = some (.lst xs) ∧ RpAll K (hid O H) xs ds
  | _, _, _, _, .nil, e => by simp at e
  | _, _, _, 0, .un _, e => by simp at e
  | _, _, _, i + 1, .un s, e => by simpa using Slots.getO (i := i) s (by simpa using e)
  | _, _, _, 0, .val _ _, e => by simp at e
  | _, _, _, i + 1, .val _ s, e => by simpa using Slots.getO (i := i) s (by simpa using e)
  | _, _, _, 0, .own h r _, e => by simp at e; subst e; exact ⟨_, _, rfl, List.mem_cons_self, h, r⟩
  | _, _, _, i + 1, .own _ _ s, e => by
    obtain ⟨l, xs, h1, h2, h3⟩ := Slots.getO (i := i) s (by simpa using e)
    exact ⟨l, xs, by simpa using h1, List.mem_cons_of_mem _ h2, h3⟩
  | _, _, _, 0, .dic _ _, e => by simp at e
  | _, _, _, 0, .dk _ _, e => by simp at e
  | _, _, _, 0, .tw _ _, e => by simp at e
  | _, _, _, i + 1, .dic _ s, e => by
    obtain ⟨l, xs, h1, h2, h3⟩ := Slots.getO (i := i) s (by simpa using e)
    exact ⟨l, xs, by simpa using h1, List.mem_cons_of_mem _ h2, h3⟩
  | _, _, _, i + 1, .dk _ s, e => by
    obtain ⟨l, xs, h1, h2, h3⟩ := Slots.getO (i := i) s (by simpa using e)
    exact ⟨l, xs, by simpa using h1, List.mem_cons_of_mem _ h2, h3⟩
  | _, _, _, i + 1, .tw _ s, e => by
    obtain ⟨l, xs, h1, h2, h3⟩ := Slots.getO (i := i) s (by simpa using e)
    exact ⟨l, xs, by simpa using h1, List.mem_cons_of_mem _ h2, h3⟩
theorem Slots.getD {kvs : List (D × D)} : ∀ {σ : List (Option V)} {ρ : List SD} {L : List Addr} {i : Nat}, Slots pr wd K O H σ ρ L → ρ[i]? = some (.dic kvs) → ∃ l, σ[i]? = some (some (.ref l)) ∧ l ∈ L ∧ NDict pr wd K O H l kvs
  | _, _, _, _, .nil, e => by simp at e
  | _, _, _, 0, .un _, e => by simp at e
  | _, _, _, i + 1, .un s, e => by simpa using Slots.getD (i := i) s (by simpa using e)
  | _, _, _, 0, .val _ _, e => by simp at e
  | _, _, _, i + 1, .val _ s, e => by simpa using Slots.getD (i := i) s (by simpa using e)
  | _, _, _, 0, .own _ _ _, e => by simp at e
  | _, _, _, i + 1, .own _ _ s, e => by
    obtain ⟨l, h1, h2, h3⟩ := Slots.getD (i := i) s (by simpa using e)
    exact ⟨l, by simpa using h1, List.mem_cons_of_mem _ h2, h3⟩
  | _, _, _, 0, .dic h _, e => by simp at e; subst e; exact ⟨_, rfl, List.mem_cons_self, h⟩
  | _, _, _, 0, .dk h _, e => by simp at e
  | _, _, _, 0, .tw h _, e => by simp at e
  | _, _, _, i + 1, .dic _ s, e => by
    obtain ⟨l, h1, h2, h3⟩ := Slots.getD (i := i) s (by simpa using e)
    exact ⟨l, by simpa using h1, List.mem_cons_of_mem _ h2, h3⟩
  | _, _, _, i + 1, .dk _ s, e => by
    obtain ⟨l, h1, h2, h3⟩ := Slots.getD (i := i) s (by simpa using e)
    exact ⟨l, by simpa using h1, List.mem_cons_of_mem _ h2, h3⟩
  | _, _, _, i + 1, .tw _ s, e => by
    obtain ⟨l, h1, h2, h3⟩ := Slots.getD (i := i) s (by simpa using e)
    exact ⟨l, by simpa using h1, List.mem_cons_of_mem _ h2, h3⟩
/-- a slot forgotten -/
theorem Slots.drop : ∀ {σ : List (Option V)} {ρ : List SD} {L : List Addr} (i : Nat), Slots pr wd K O H σ ρ L → ∃ L', Slots pr wd K O H σ (ρ.set i .un) L' ∧ L'.Sublist L
  | _, _, _, _, .nil => ⟨[], .nil, List.Sublist.refl _⟩
  | _, _, _, 0, .un s => ⟨_, .un s, List.Sublist.refl _⟩
  | _, _, _, 0, .val _ s => ⟨_, .un s, List.Sublist.refl _⟩
  | _, _, _, 0, .own _ _ s => ⟨_, .un s, List.sublist_cons_self _ _⟩
  | _, _, _, i + 1, .un s => by
    obtain ⟨L', h1, h2⟩ := Slots.drop i s
    exact ⟨L', .un h1, h2⟩
  | _, _, _, i + 1, .val h s => by
    obtain ⟨L', h1, h2⟩ := Slots.drop i s
    exact ⟨L', .val h h1, h2⟩
  | _, _, _, i + 1, .own h r s => by
    obtain ⟨L', h1, h2⟩ := Slots.drop i s
    exact ⟨_ :: L', .own h r h1, h2.cons_cons _⟩
  | _, _, _, 0, .dic _ s => ⟨_, .un s, List.sublist_cons_self _ _⟩
  | _, _, _, 0, .dk _ s => ⟨_, .un s, List.sublist_cons_self _ _⟩
  | _, _, _, 0, .tw _ s => ⟨_, .un s, List.sublist_cons_self _ _⟩
  | _, _, _, i + 1, .dic h s => by
    obtain ⟨L', h1, h2⟩ := Slots.drop i s
    exact ⟨_ :: L', .dic h h1, h2.cons_cons _⟩
  | _, _, _, i + 1, .dk h s => by
    obtain ⟨L', h1, h2⟩ := Slots.drop i s
    exact ⟨_ :: L', .dk h h1, h2.cons_cons _⟩
  | _, _, _, i + 1, .tw h s => by
    obtain ⟨L', h1, h2⟩ := Slots.drop i s
    exact ⟨_ :: L', .tw h h1, h2.cons_cons _⟩
theorem Slots.set {v : V} {d : D} (hv : Rp K (hid O H) v d) : ∀ {σ : List (Option V)} {ρ : List SD} {L : List Addr} (i : Nat), Slots pr wd K O H σ ρ L → ∃ L', Slots pr wd K O H (σ.set i (some v)) (ρ.set i (.val d)) L' ∧ L'.Sublist L
  | _, _, _, _, .nil => ⟨[], .nil, List.Sublist.refl _⟩
  | _, _, _, 0, .un s => ⟨_, .val hv s, List.Sublist.refl _⟩
  | _, _, _, 0, .val _ s => ⟨_, .val hv s, List.Sublist.refl _⟩
  | _, _, _, 0, .own _ _ s => ⟨_, .val hv s, List.sublist_cons_self _ _⟩
  | _, _, _, i + 1, .un s => by
    obtain ⟨L', h1, h2⟩ := Slots.set hv i s
    exact ⟨L', .un h1, h2⟩
  | _, _, _, i + 1, .val h s => by
    obtain ⟨L', h1, h2⟩ := Slots.set hv i s
    exact ⟨L', .val h h1, h2⟩
  | _, _, _, i + 1, .own h r s => by
    obtain ⟨L', h1, h2⟩ := Slots.set hv i s
    exact ⟨_ :: L', .own h r h1, h2.cons_cons _⟩
  | _, _, _, 0, .dic _ s => ⟨_, .val hv s, List.sublist_cons_self _ _⟩
  | _, _, _, 0, .dk _ s => ⟨_, .val hv s, List.sublist_cons_self _ _⟩
  | _, _, _, 0, .tw _ s => ⟨_, .val hv s, List.sublist_cons_self _ _⟩
  | _, _, _, i + 1, .dic h s => by
    obtain ⟨L', h1, h2⟩ := Slots.set hv i s
    exact ⟨_ :: L', .dic h h1, h2.cons_cons _⟩
  | _, _, _, i + 1, .dk h s => by
    obtain ⟨L', h1, h2⟩ := Slots.set hv i s
    exact ⟨_ :: L', .dk h h1, h2.cons_cons _⟩
  | _, _, _, i + 1, .tw h s => by
    obtain ⟨L', h1, h2⟩ := Slots.set hv i s
    exact ⟨_ :: L', .tw h h1, h2.cons_cons _⟩
theorem Slots.setO {l : Addr} {xs : List V} {ds : List D} (hl : H l = some (.lst xs)) (hx : RpAll K (hid O H) xs ds) (hn : l ∉ L) : ∀ {σ : List (Option V)} {ρ : List SD} {L : List Addr} (i : Nat), i < ρ.length → Slots pr wd K O H σ ρ L →
    ∃ L1 L2 L3, Slots pr wd K O H (σ.set i (some (.ref l))) (ρ.set i (.own ds)) (L1 ++ l :: L2) ∧ L = L1 ++ L3 ∧ L2.Sublist L3
  | _, _, _, _, h, .nil => by simp at h
  | _, _, L, 0, _, .un s => ⟨[], L, L, .own hl hx s, rfl, List.Sublist.refl _⟩
  | _, _, L, 0, _, .val _ s => ⟨[], L, L, .own hl hx s, rfl, List.Sublist.refl _⟩
  | _, _, _ :: L, 0, _, .own _ _ s => ⟨[], L, _, .own hl hx s, rfl, List.sublist_cons_self _ _⟩
  | _, _, _, i + 1, h, .un s => by
    obtain ⟨L1, L2, L3, h1, h2⟩ := Slots.setO hl hx hn i (by simpa using h) s
    exact ⟨L1, L2, L3, .un h1, h2⟩
  | _, _, _, i + 1, h, .val q s => by
    obtain ⟨L1, L2, L3, h1, h2⟩ := Slots.setO hl hx hn i (by simpa using h) s
    exact ⟨L1, L2, L3, .val q h1, h2⟩
  | _, _, _, i + 1, h, .own q r s => by
    obtain ⟨L1, L2, L3, h1, h2, h3⟩ := Slots.setO hl hx hn i (by simpa using h) s
    exact ⟨_ :: L1, L2, L3, .own q r h1, by rw [h2]; rfl, h3⟩
  | _, _, _ :: L, 0, _, .dic _ s => ⟨[], L, _, .own hl hx s, rfl, List.sublist_cons_self _ _⟩
  | _, _, _ :: L, 0, _, .dk _ s => ⟨[], L, _, .own hl hx s, rfl, List.sublist_cons_self _ _⟩
  | _, _, _ :: L, 0, _, .tw _ s => ⟨[], L, _, .own hl hx s, rfl, List.sublist_cons_self _ _⟩
  | _, _, _, i + 1, h, .dic q s => by
    obtain ⟨L1, L2, L3, h1, h2, h3⟩ := Slots.setO hl hx hn i (by simpa using h) s
    exact ⟨_ :: L1, L2, L3, .dic q h1, by rw [h2]; rfl, h3⟩
  | _, _, _, i + 1, h, .dk q s => by
    obtain ⟨L1, L2, L3, h1, h2, h3⟩ := Slots.setO hl hx hn i (by simpa using h) s
    exact ⟨_ :: L1, L2, L3, .dk q h1, by rw [h2]; rfl, h3⟩
  | _, _, _, i + 1, h, .tw q s => by
    obtain ⟨L1, L2, L3, h1, h2, h3⟩ := Slots.setO hl hx hn i (by simpa using h) s
    exact ⟨_ :: L1, L2, L3, .tw q h1, by rw [h2]; rfl, h3⟩
theorem Slots.setN {l : Addr} {kvs : List (D × D)} (hx : NDict pr wd K O H l kvs) (hn : l ∉ L) : ∀ {σ : List (Option V)} {ρ : List SD} {L : List Addr} (i : Nat), i < ρ.length → Slots pr wd K O H σ ρ L →
    ∃ L1 L2 L3, Slots pr wd K O H (σ.set i (some (.ref l))) (ρ.set i (.dic kvs)) (L1 ++ l :: L2) ∧ L = L1 ++ L3 ∧ L2.Sublist L3
  | _, _, _, _, h, .nil => by simp at h
  | _, _, L, 0, _, .un s => ⟨[], L, L, .dic hx s, rfl, List.Sublist.refl _⟩
  | _, _, L, 0, _, .val _ s => ⟨[], L, L, .dic hx s, rfl, List.Sublist.refl _⟩
  | _, _, _ :: L, 0, _, .own _ _ s => ⟨[], L, _, .dic hx s, rfl, List.sublist_cons_self _ _⟩
  | _, _, _ :: L, 0, _, .dic _ s => ⟨[], L, _, .dic hx s, rfl, List.sublist_cons_self _ _⟩
  | _, _, _ :: L, 0, _, .dk _ s => ⟨[], L, _, .dic hx s, rfl, List.sublist_cons_self _ _⟩
  | _, _, _ :: L, 0, _, .tw _ s => ⟨[], L, _, .dic hx s, rfl, List.sublist_cons_self _ _⟩
  | _, _, _, i + 1, h, .un s => by
    obtain ⟨L1, L2, L3, h1, h2⟩ := Slots.setN hx hn i (by simpa using h) s
    exact ⟨L1, L2, L3, .un h1, h2⟩
  | _, _, _, i + 1, h, .val q s => by
    obtain ⟨L1, L2, L3, h1, h2⟩ := Slots.setN hx hn i (by simpa using h) s
    exact ⟨L1, L2, L3, .val q h1, h2⟩
  | _, _, _, i + 1, h, .own q r s => by
    obtain ⟨L1, L2, L3, h1, h2, h3⟩ := Slots.setN hx hn i (by simpa using h) s
    exact ⟨_ :: L1, L2, L3, .own q r h1, by rw [h2]; rfl, h3⟩
  | _, _, _, i + 1, h, .dic q s => by
    obtain ⟨L1, L2, L3, h1, h2, h3⟩ := Slots.setN hx hn i (by simpa using h) s
    exact ⟨_ :: L1, L2, L3, .dic q h1, by rw [h2]; rfl, h3⟩
  | _, _, _, i + 1, h, .dk q s => by
    obtain ⟨L1, L2, L3, h1, h2, h3⟩ := Slots.setN hx hn i (by simpa using h) s
    exact ⟨_ :: L1, L2, L3, .dk q h1, by rw [h2]; rfl, h3⟩
  | _, _, _, i + 1, h, .tw q s => by
    obtain ⟨L1, L2, L3, h1, h2, h3⟩ := Slots.setN hx hn i (by simpa using h) s
    exact ⟨_ :: L1, L2, L3, .tw q h1, by rw [h2]; rfl, h3⟩
end

theorem Slots.lists {pr : Program} {wd : World} {K : PySem.W.Frag} {O : List Addr} {H : Hp} {σ : List (Option V)} {ρ : List SD} {L : List Addr} (s : Slots pr wd K O H σ ρ L) : ∀ l ∈ L, ∃ o, H l = some o := by
  induction s with
  | nil => intro l h; cases h
  | un _ ih => exact ih
  | val _ _ ih => exact ih
  | own h _ _ ih =>
    intro l hl
    rcases List.mem_cons.mp hl with e | e
    · subst e; exact ⟨_, h⟩
    · exact ih l e
  | dic h _ ih =>
    intro l hl
    rcases List.mem_cons.mp hl with e | e
    · subst e; obtain ⟨xs, h1, _⟩ := h; exact ⟨_, h1⟩
    · exact ih l e
  | dk h _ ih =>
    intro l hl
    rcases List.mem_cons.mp hl with e | e
    · subst e; obtain ⟨xs, h1, _⟩ := h; exact ⟨_, h1⟩
    · exact ih l e
  | tw h _ ih =>
    intro l hl
    rcases List.mem_cons.mp hl with e | e
    · subst e; obtain ⟨xs, _, _, _, h1, _⟩ := h; exact ⟨_, h1⟩
    · exact ih l e
section
variable {c : Ctx} {P : Hp} {L : List Addr} {n n' : Nat} {H H' : Hp} {σ : List (Option V)} {ρ : List SD}
theorem mem_B {b : Addr} : b ∈ c.B ↔ ∃ q, c.bag = some (b, q) := by
  unfold Ctx.B
  cases c.bag with
  | none => simp
  | some x =>
    obtain ⟨x1, x2⟩ := x
    simp [eq_comm]
theorem Env.inO (E : Env c P L n H σ ρ) {b : Addr} (h : b ∈ c.B) : b ∈ c.O := by
  obtain ⟨q, e⟩ := mem_B.mp h
  exact (E.bO b q e).1
theorem Env.notB (E : Env c P L n H σ ρ) {l : Addr} (h : l ∈ L) : l ∉ c.B := fun q => (E.fresh l h).2 (E.inO q)
theorem Env.BLO (E : Env c P L n H σ ρ) : ∀ a, a ∈ c.B → a ∈ L ++ c.O := fun a h => List.mem_append_right _ (E.inO h)
theorem Env.sameLO (E : Env c P L n H σ ρ) (e : Same (hid c.B H) (hid c.B H')) : Same (hid (L ++ c.O) H) (hid (L ++ c.O) H') := same_hid_more E.BLO e
theorem Env.own (E : Env c P L n H σ ρ) (e : Same (hid c.B H) (hid c.B H')) : ∀ l ∈ L, H' l = H l := fun l hl => by
  obtain ⟨xs, h⟩ := E.lst l hl
  rw [h]
  exact (hid_some.mp (e l _ (hid_some.mpr ⟨E.notB hl, h⟩))).2
/-- an expression's step -/
theorem Env.step (E : Env c P L n H σ ρ) (e : Same (hid c.B H) (hid c.B H')) (j : c.J n' H') : Env c P L n' H' σ ρ where
  nd := E.nd
  fresh := E.fresh
  slots := by
    obtain ⟨Ls, s, sub⟩ := E.slots
    exact ⟨Ls, s.move (fun l hl => E.own e l (sub.subset hl)) (E.sameLO e), sub⟩
  lst := fun l hl => by
    rw [E.own e l hl]
    exact E.lst l hl
  bag := j
  base := E.base.trans e
  pers := E.pers.trans (E.sameLO e)
  bO := E.bO
  al := fun o ho => by
    by_cases hb : o ∈ c.B
    · obtain ⟨q, hq⟩ := mem_B.mp hb
      obtain ⟨xs, h⟩ := (j o q hq).lst
      rw [h]; exact fun q => by cases q
    · cases h : H o with
      | none => exact absurd h (E.al o ho)
      | some u =>
        rw [(hid_some.mp (e o u (hid_some.mpr ⟨hb, h⟩))).2]
        exact fun q => by cases q
/-- where all stands and new things may have come -/
theorem Env.same (E : Env c P L n H σ ρ) (e : Same H H') : Same (hid c.B H) (hid c.B H') ∧ c.J n H' :=
  ⟨same_hid_of e, fun b q hb => (E.bag b q hb).move (fun o h => e b o h) fun o h => e q o h⟩
theorem Env.new (E : Env c P L n H σ ρ) {p : Addr} (h : H p = none) : c.H0 p = none ∧ p ∉ c.O ∧ p ∉ L := by
  have h1 : p ∉ c.O := fun q => E.al p q h
  refine ⟨?_, h1, fun q => ?_⟩
  · cases e : c.H0 p with
    | none => rfl
    | some u =>
      have := (hid_some.mp (E.base p u (hid_some.mpr ⟨fun q => h1 (E.inO q), e⟩))).2
      rw [h] at this; cases this
  · obtain ⟨xs, e⟩ := E.lst p q
    rw [h] at e; cases e
theorem Env.pers' (E : Env c P L n H σ ρ) : Env c (hid (L ++ c.O) H) L n H σ ρ := { E with pers := Same.refl _ }
theorem Env.persOf {P' : Hp} (E : Env c P L n H σ ρ) (h : Same P' P) : Env c P' L n H σ ρ := { E with pers := h.trans E.pers }
/-- other slots over the same or a smaller set of owned lists -/
theorem Env.reslot {L' : List Addr} {σ' : List (Option V)} {ρ' : List SD} (E : Env c P L n H σ ρ) (s : Slots c.pr c.wd c.K (L ++ c.O) H σ' ρ' L') (h : L'.Sublist L) : Env c P L n H σ' ρ' :=
  { E with slots := ⟨L', s, h⟩ }
end
end L3
/-! L3b: the judgements over data, and their rules. -/
namespace L3
open PySem L2

abbrev Ph := Nat → D → Prop
abbrev ER := List (Option V)
def WE (c : Ctx) (te : TE) (ρ : List SD) (n : Nat) (Φ : Nat → D → Prop) : Prop :=
  ∀ P L σ H Q, Env c P L n H σ ρ → (∀ v d n' H', Same (hid c.B H) (hid c.B H') → c.J n' H' → Rp c.K (hid (L ++ c.O) H') v d → Φ n' d → Q v H') → te σ H Q
def WT (c : Ctx) (tt : TT) (ρ : List SD) (n : Nat) (Φ : Nat → Bool → Prop) : Prop :=
  ∀ P L σ H Q, Env c P L n H σ ρ → (∀ b n' H', Same (hid c.B H) (hid c.B H') → c.J n' H' → Φ n' b → Q b H') → tt σ H Q
def WA (c : Ctx) (ta : TA) (ρ : List SD) (n : Nat) (Φ : Nat → List D → Prop) : Prop :=
  ∀ P L σ H Q, Env c P L n H σ ρ → (∀ vs ds n' H', Same (hid c.B H) (hid c.B H') → c.J n' H' → RpAll c.K (hid (L ++ c.O) H') vs ds → Φ n' ds → Q vs H') → ta σ H Q
/-- a part of a slice -/
def WO (c : Ctx) (to : TO) (ρ : List SD) (n : Nat) (Φ : Nat → Option Int → Prop) : Prop :=
  ∀ P L σ H Q, Env c P L n H σ ρ → (∀ o n' H', Same (hid c.B H) (hid c.B H') → c.J n' H' → Φ n' o → Q o H') → to σ H Q
/-- a new list -/
def WF (c : Ctx) (te : TE) (ρ : List SD) (n : Nat) (Φ : Nat → List D → Prop) : Prop :=
  ∀ P L σ H Q, Env c P L n H σ ρ → (∀ p xs ds n' H', Same (hid c.B H) (hid c.B H') → H p = none → H' p = some (.lst xs) → RpAll c.K (hid (p :: (L ++ c.O)) H') xs ds → c.J n' H' → Φ n' ds → Q (.ref p) H') → te σ H Q
structure Out where
  nx : Nat → List SD → Prop
  rt : Nat → D → Prop
  bk : Nat → List SD → Prop := fun _ _ => False
  ct : Nat → List SD → Prop := fun _ _ => False
structure Acc (c : Ctx) (P : Hp) (Ψ : Out) (Dn : Ends) : Prop where
  nx : ∀ L n H σ ρ, Env c P L n H σ ρ → Ψ.nx n ρ → Dn.nx σ H
  rt : ∀ v d n H, Same (hid c.B c.H0) (hid c.B H) → c.J n H → Rp c.K (hid c.O H) v d → Ψ.rt n d → Dn.rt v H
  bk : ∀ L n H σ ρ, Env c P L n H σ ρ → Ψ.bk n ρ → Dn.bk σ H
  ct : ∀ L n H σ ρ, Env c P L n H σ ρ → Ψ.ct n ρ → Dn.ct σ H
def WS (c : Ctx) (ts : TS) (ρ : List SD) (n : Nat) (Ψ : Out) : Prop :=
  ∀ P L σ H Dn, Env c P L n H σ ρ → Acc c P Ψ Dn → ts Dn σ H
def WG (c : Ctx) (R : ER → ER → Prop) (g : TG) (d : D) (ρ : List SD) (n : Nat) (Φ : List SD → Prop) : Prop :=
  ∀ P L σ H v Q, Env c P L n H σ ρ → Rp c.K (hid (L ++ c.O) H) v d → (∀ σ' ρ', Env c P L n H σ' ρ' → R σ σ' → Φ ρ' → Q σ' H) → g v σ H Q
def WGs (c : Ctx) (R : ER → ER → Prop) (g : TGs) (ds : List D) (ρ : List SD) (n : Nat) (Φ : List SD → Prop) : Prop :=
  ∀ P L σ H vs Q, Env c P L n H σ ρ → RpAll c.K (hid (L ++ c.O) H) vs ds → (∀ σ' ρ', Env c P L n H σ' ρ' → R σ σ' → Φ ρ' → Q σ' H) → g vs σ H Q
/-- a walk over these data -/
structure ItOk (c : Ctx) (J : It) (ds : List D) (P : Hp) : Prop where
  go : ∀ L n H σ ρ, Env c P L n H σ ρ → ∀ i d, ds[i]? = some d → J.go i H ∧ ∀ x H', J.yld i H x H' → Same H H' ∧ Rp c.K (hid (L ++ c.O) H') x d
  stop : ∀ L n H σ ρ, Env c P L n H σ ρ → ∀ i, ds.length ≤ i → J.stop i H
def WI (c : Ctx) (wi : TI) (ρ : List SD) (n : Nat) (Φ : Nat → List D → Prop) : Prop :=
  ∀ P L σ H R, Env c P L n H σ ρ → (∀ J ds n' H', Same (hid c.B H) (hid c.B H') → c.J n' H' → ItOk c J ds (hid (L ++ c.O) H') → Φ n' ds → R J H') → wi σ H R

section
variable {c : Ctx} {ρ : List SD} {n : Nat} {ta tb te : TE} {t u : TT} {as : TA} {Φ : Nat → D → Prop} {Ψ : Out} {ts us : TS}

/-! ### steps -/
theorem Env.up {P : Hp} {L : List Addr} {n n' : Nat} {H H' H2 : Hp} {σ : List (Option V)} {ρ : List SD} (E : Env c P L n H σ ρ) (e : Same (hid c.B H) (hid c.B H')) {v : V} {d : D} (h : Rp c.K (hid (L ++ c.O) H) v d) : Rp c.K (hid (L ++ c.O) H') v d := h.mono (E.sameLO e)
theorem Env.ups {P : Hp} {L : List Addr} {n n' : Nat} {H H' H2 : Hp} {σ : List (Option V)} {ρ : List SD} (E : Env c P L n H σ ρ) (e : Same (hid c.B H) (hid c.B H')) {v : List V} {d : List D} (h : RpAll c.K (hid (L ++ c.O) H) v d) : RpAll c.K (hid (L ++ c.O) H') v d := h.mono (E.sameLO e)

theorem Env.noO {P : Hp} {L : List Addr} {n : Nat} {H : Hp} {σ : List (Option V)} (E : Env c P L n H σ ρ) : ∀ p, H p = none → p ∉ L ++ c.O := fun p hp q => by
  have w := E.new hp
  rcases List.mem_append.mp q with q | q
  · exact w.2.2 q
  · exact w.2.1 q
/-! ### expressions -/
theorem we_var {i : Nat} {d : D} (h : ρ[i]? = some (.val d)) (k : Φ n d) : WE c (tVar i) ρ n Φ := fun P L σ H Q E q => by
  obtain ⟨Ls, sl, _⟩ := E.slots
  obtain ⟨v, h1, h2⟩ := sl.get h
  exact ⟨v, h1, q v d n H (Same.refl _) E.bag h2 k⟩
theorem we_int {i : Int} (k : Φ n (.int i)) : WE c (tC (.int i)) ρ n Φ := fun P L σ H Q E q => q _ _ n H (Same.refl _) E.bag (.int i) k
theorem we_str {x : Str} (k : Φ n (.str x)) : WE c (tC (.str x)) ρ n Φ := fun P L σ H Q E q => q _ _ n H (Same.refl _) E.bag (.str x) k
theorem we_bl {b : Bool} (k : Φ n (.bl b)) : WE c (tC (.bl b)) ρ n Φ := fun P L σ H Q E q => q _ _ n H (Same.refl _) E.bag (.bl b) k
theorem we_non (k : Φ n .non) : WE c (tC .non) ρ n Φ := fun P L σ H Q E q => q _ _ n H (Same.refl _) E.bag .non k
/-- two expressions in a row, then what is asked of their values -/
def R2D (K : PySem.W.Frag) (r : R2) (d e : D) (Φ : D → Prop) : Prop := ∀ (O : List Addr) (H : Hp) (x y : V) (Q : VK), Rp K (hid O H) x d → Rp K (hid O H) y e → (∀ p, H p = none → p ∉ O) → (∀ v f H', Same H H' → Rp K (hid O H') v f → Φ f → Q v H') → r x y H Q
theorem we_op {r : R2} (h : WE c ta ρ n fun n1 d => WE c tb ρ n1 fun n2 e => R2D c.K r d e (Φ n2)) : WE c (tOp r ta tb) ρ n Φ := fun P L σ H Q E q => by
  refine h P L σ H _ E fun x d n1 H1 s1 j1 r1 h1 => ?_
  refine h1 P L σ H1 _ (E.step s1 j1) fun y e n2 H2 s2 j2 r2 h2 => ?_
  have E2 := (E.step s1 j1).step s2 j2
  refine h2 (L ++ c.O) H2 x y Q ((E.step s1 j1).up (n' := 0) (H2 := H) s2 r1) r2 E2.noO fun v f H' s r k => ?_
  have z := E2.same s
  exact q v f n2 H' ((s1.trans s2).trans z.1) z.2 r k
theorem we_un {r : V → Hp → VK → Prop} (h : WE c ta ρ n fun n1 d => ∀ (O : List Addr) (H : Hp) (x : V) (Q : VK), Rp c.K (hid O H) x d → (∀ p, H p = none → p ∉ O) → (∀ v f H', Same H H' → Rp c.K (hid O H') v f → Φ n1 f → Q v H') → r x H Q) : WE c (tUn r ta) ρ n Φ := fun P L σ H Q E q => by
  refine h P L σ H _ E fun x d n1 H1 s1 j1 r1 h1 => ?_
  refine h1 (L ++ c.O) H1 x Q r1 (E.step s1 j1).noO fun v f H' s r k => ?_
  have z := (E.step s1 j1).same s
  exact q v f n1 H' (s1.trans z.1) z.2 r k
/-- an int operation -/
theorem r2_int {K : PySem.W.Frag} {C : Int → Int → Prop} {g : Int → Int → V} {h : Int → Int → D} (hg : ∀ (H : Hp) i j, Rp K H (g i j) (h i j)) {i j : Int} {Φ : D → Prop} (hc : C i j) (k : Φ (h i j)) : R2D K (rI C g) (.int i) (.int j) Φ := fun O H x y Q rx ry _ q => by
  cases rx
  cases ry
  exact ⟨i, j, rfl, rfl, hc, q _ _ H (Same.refl _) (hg _ i j) k⟩
theorem r2_int0 {K : PySem.W.Frag} {g : Int → Int → V} {h : Int → Int → D} (hg : ∀ (H : Hp) i j, Rp K H (g i j) (h i j)) {i j : Int} {Φ : D → Prop} (k : Φ (h i j)) : R2D K (rI0 g) (.int i) (.int j) Φ := fun O H x y Q rx ry _ q => by
  cases rx
  cases ry
  exact ⟨i, j, rfl, rfl, q _ _ H (Same.refl _) (hg _ i j) k⟩
theorem r2_eq {K : PySem.W.Frag} {d e : D} {b : Bool} {Φ : D → Prop} (hs : ∀ (H : Hp) x y, Rp K H x d → Rp K H y e → scal x y = true ∧ decide (x = y) = b) (k : Φ (.bl b)) : R2D K rEq d e Φ := fun O H x y Q rx ry _ q => by
  obtain ⟨h1, h2⟩ := hs _ x y rx ry
  exact ⟨h1, by rw [h2]; exact q _ _ H (Same.refl _) (.bl b) k⟩
theorem r2_ne {K : PySem.W.Frag} {d e : D} {b : Bool} {Φ : D → Prop} (hs : ∀ (H : Hp) x y, Rp K H x d → Rp K H y e → scal x y = true ∧ (!decide (x = y)) = b) (k : Φ (.bl b)) : R2D K rNe d e Φ := fun O H x y Q rx ry _ q => by
  obtain ⟨h1, h2⟩ := hs _ x y rx ry
  exact ⟨h1, by rw [h2]; exact q _ _ H (Same.refl _) (.bl b) k⟩
/-- a value as a test -/
theorem wt_B {Φ : Nat → Bool → Prop} (h : WE c te ρ n fun n1 d => ∃ b, d = .bl b ∧ Φ n1 b) : WT c (tB te) ρ n Φ := fun P L σ H Q E q => by
  refine h P L σ H _ E fun x d n1 H1 s1 j1 r1 ⟨b, e, k⟩ => ?_
  subst e
  cases r1
  exact ⟨b, rfl, q b n1 H1 s1 j1 k⟩
theorem wt_test {Φ : Nat → Bool → Prop} (h : WE c te ρ n fun n1 d => ∃ b, d = .bl b ∧ Φ n1 b) : WT c (tTest te) ρ n Φ := wt_B h
/-- truth -/
def tru : D → Option Bool
  | .non => some false
  | .bl b => some b
  | .int i => some (i != 0)
  | .str x => if x.length ≤ sizeLine then some ((x.length : Int) != 0) else none
  | .lst xs => some (!xs.isEmpty)
  | .tup xs => some (!xs.isEmpty)
  | _ => none
theorem tru_V {K : PySem.W.Frag} {H : Hp} {O : List Addr} {x : V} {d : D} {b : Bool} (r : Rp K (hid O H) x d) (h : tru d = some b) : TruV K x H b := by
  cases r with
  | non => exact (Option.some.inj h).symm
  | bl b => exact (Option.some.inj h).symm
  | int i => exact (Option.some.inj h).symm
  | str x =>
    by_cases hx : x.length ≤ sizeLine
    · have h' : (if x.length ≤ sizeLine then some ((x.length : Int) != 0) else none) = some b := h
      rw [if_pos hx] at h'
      exact ⟨hx, (Option.some.inj h').symm⟩
    · have h' : (if x.length ≤ sizeLine then some ((x.length : Int) != 0) else none) = some b := h
      rw [if_neg hx] at h'
      cases h'
  | lst hs ha =>
    refine .inl ⟨_, .inl (same_rd same_hid hs), ?_⟩
    rw [← Option.some.inj h]
    cases ha <;> rfl
  | tup hs ha =>
    refine .inr (.inl ⟨_, same_t same_hid hs, ?_⟩)
    rw [← Option.some.inj h]
    cases ha <;> rfl
  | obj h1 _ => cases h
  | adr a => cases h
  | ty n => cases h
  | dct _ _ => cases h
  | dcn _ _ _ => cases h
theorem wt_tru {Φ : Nat → Bool → Prop} (h : WE c te ρ n fun n1 d => ∃ b, tru d = some b ∧ Φ n1 b) : WT c (fun σ H Q => te σ H fun x H' => ∃ k, TruV c.K x H' k ∧ Q k H') ρ n Φ := fun P L σ H Q E q => by
  refine h P L σ H _ E fun x d n1 H1 s1 j1 r1 ⟨b, e, k⟩ => ?_
  exact ⟨b, tru_V r1 e, q b n1 H1 s1 j1 k⟩
theorem wt_and {Φ : Nat → Bool → Prop} (h : WT c t ρ n fun n1 b => if b = true then WT c u ρ n1 Φ else Φ n1 false) : WT c (tAnd t u) ρ n Φ := fun P L σ H Q E q => by
  refine h P L σ H _ E fun b n1 H1 s1 j1 k => ?_
  cases b with
  | true =>
    rw [if_pos rfl] at k
    show u σ H1 Q
    exact k P L σ H1 Q (E.step s1 j1) fun b n2 H2 s2 j2 k2 => q b n2 H2 (s1.trans s2) j2 k2
  | false =>
    rw [if_neg Bool.false_ne_true] at k
    exact q false n1 H1 s1 j1 k
theorem wt_or {Φ : Nat → Bool → Prop} (h : WT c t ρ n fun n1 b => if b = true then Φ n1 true else WT c u ρ n1 Φ) : WT c (tOr t u) ρ n Φ := fun P L σ H Q E q => by
  refine h P L σ H _ E fun b n1 H1 s1 j1 k => ?_
  cases b with
  | true =>
    rw [if_pos rfl] at k
    exact q true n1 H1 s1 j1 k
  | false =>
    rw [if_neg Bool.false_ne_true] at k
    show u σ H1 Q
    exact k P L σ H1 Q (E.step s1 j1) fun b n2 H2 s2 j2 k2 => q b n2 H2 (s1.trans s2) j2 k2
theorem wt_not {Φ : Nat → Bool → Prop} (h : WT c t ρ n fun n1 b => Φ n1 (!b)) : WT c (tNot t) ρ n Φ := fun P L σ H Q E q => h P L σ H _ E fun b n1 H1 s1 j1 k => q (!b) n1 H1 s1 j1 k
theorem wt_yes {Φ : Nat → Bool → Prop} (k : Φ n true) : WT c tYes ρ n Φ := fun P L σ H Q E q => q true n H (Same.refl _) E.bag k
theorem we_not (h : WE c ta ρ n fun n1 d => ∃ b, d = .bl b ∧ Φ n1 (.bl (!b))) : WE c (tNotV ta) ρ n Φ := fun P L σ H Q E q => by
  refine h P L σ H _ E fun x d n1 H1 s1 j1 r1 ⟨b, e, k⟩ => ?_
  subst e
  cases r1
  exact ⟨b, rfl, q _ _ n1 H1 s1 j1 (.bl _) k⟩
theorem we_and (h : WE c ta ρ n fun n1 d => ∃ b, d = .bl b ∧ if b = true then WE c tb ρ n1 Φ else Φ n1 (.bl false)) : WE c (tAndV ta tb) ρ n Φ := fun P L σ H Q E q => by
  refine h P L σ H _ E fun x d n1 H1 s1 j1 r1 ⟨b, e, k⟩ => ?_
  subst e
  cases r1
  refine ⟨b, rfl, ?_⟩
  cases b with
  | true =>
    rw [if_pos rfl] at k ⊢
    exact k P L σ H1 Q (E.step s1 j1) fun v d n2 H2 s2 j2 r2 k2 => q v d n2 H2 (s1.trans s2) j2 r2 k2
  | false =>
    rw [if_neg Bool.false_ne_true] at k ⊢
    exact q _ _ n1 H1 s1 j1 (.bl _) k
theorem we_or (h : WE c ta ρ n fun n1 d => ∃ b, d = .bl b ∧ if b = true then Φ n1 (.bl true) else WE c tb ρ n1 Φ) : WE c (tOrV ta tb) ρ n Φ := fun P L σ H Q E q => by
  refine h P L σ H _ E fun x d n1 H1 s1 j1 r1 ⟨b, e, k⟩ => ?_
  subst e
  cases r1
  refine ⟨b, rfl, ?_⟩
  cases b with
  | true =>
    rw [if_pos rfl] at k ⊢
    exact q _ _ n1 H1 s1 j1 (.bl _) k
  | false =>
    rw [if_neg Bool.false_ne_true] at k ⊢
    exact k P L σ H1 Q (E.step s1 j1) fun v d n2 H2 s2 j2 r2 k2 => q v d n2 H2 (s1.trans s2) j2 r2 k2
theorem we_if (h : WT c t ρ n fun n1 b => if b = true then WE c ta ρ n1 Φ else WE c tb ρ n1 Φ) : WE c (tIf t ta tb) ρ n Φ := fun P L σ H Q E q => by
  refine h P L σ H _ E fun b n1 H1 s1 j1 k => ?_
  cases b with
  | true =>
    rw [if_pos rfl] at k ⊢
    exact k P L σ H1 Q (E.step s1 j1) fun v d n2 H2 s2 j2 r2 k2 => q v d n2 H2 (s1.trans s2) j2 r2 k2
  | false =>
    rw [if_neg Bool.false_ne_true] at k ⊢
    exact k P L σ H1 Q (E.step s1 j1) fun v d n2 H2 s2 j2 r2 k2 => q v d n2 H2 (s1.trans s2) j2 r2 k2
/-- is None -/
def isNon : D → Bool
  | .non => true
  | _ => false
theorem isNon_V {K : PySem.W.Frag} {H : Hp} {x : V} {d : D} (r : Rp K H x d) : decide (x = .non) = isNon d := by
  cases r <;> first | rfl | exact decide_eq_false (fun e => by cases e)
theorem we_isN (h : WE c ta ρ n fun n1 d => Φ n1 (.bl (isNon d))) : WE c (tIsN ta) ρ n Φ := fun P L σ H Q E q => by
  refine h P L σ H _ E fun x d n1 H1 s1 j1 r1 k => ?_
  rw [isNon_V r1]
  exact q _ _ n1 H1 s1 j1 (.bl _) k
theorem we_notN (h : WE c ta ρ n fun n1 d => Φ n1 (.bl (!isNon d))) : WE c (tNotN ta) ρ n Φ := fun P L σ H Q E q => by
  refine h P L σ H _ E fun x d n1 H1 s1 j1 r1 k => ?_
  rw [isNon_V r1]
  exact q _ _ n1 H1 s1 j1 (.bl _) k

/-! ### arguments, displays -/
theorem wa_nil {Φ : Nat → List D → Prop} (k : Φ n []) : WA c tNil ρ n Φ := fun P L σ H Q E q => q [] [] n H (Same.refl _) E.bag .nil k
theorem wa_cons {Φ : Nat → List D → Prop} (h : WE c ta ρ n fun n1 d => WA c as ρ n1 fun n2 ds => Φ n2 (d :: ds)) : WA c (tCons ta as) ρ n Φ := fun P L σ H Q E q => by
  refine h P L σ H _ E fun x d n1 H1 s1 j1 r1 h1 => ?_
  have E1 := E.step s1 j1
  refine h1 P L σ H1 _ E1 fun vs ds n2 H2 s2 j2 r2 k => ?_
  exact q _ _ n2 H2 (s1.trans s2) j2 (.cons (E1.up (n' := 0) (H2 := H) s2 r1) r2) k
theorem Env.newT {P : Hp} {L : List Addr} {n : Nat} {H : Hp} {σ : List (Option V)} {p : Addr} {o : HO} (E : Env c P L n H σ ρ) (hp : H p = none) : Same (hid c.B H) (hid c.B (upd H p o)) ∧ c.J n (upd H p o) ∧ p ∉ L ++ c.O := by
  have z := E.same (same_upd_new (o := o) hp)
  have w := E.new hp
  exact ⟨z.1, z.2, fun q => by rcases List.mem_append.mp q with q | q; exact w.2.2 q; exact w.2.1 q⟩
theorem rp_upd {K : PySem.W.Frag} {O : List Addr} {H : Hp} {p : Addr} {o : HO} (hp : H p = none) : Same (hid O H) (hid O (upd H p o)) := same_hid_of (same_upd_new hp)
theorem hid_at {O : List Addr} {H : Hp} {p : Addr} {o : HO} (hp : p ∉ O) : hid O (upd H p o) p = some o := by rw [hid_out hp, upd_same]
theorem we_tup (h : WA c as ρ n fun n1 ds => ds.length ≤ sizeLine ∧ Φ n1 (.tup ds)) : WE c (tTup as) ρ n Φ := fun P L σ H Q E q => by
  refine h P L σ H _ E fun vs ds n1 H1 s1 j1 r1 ⟨hz, k⟩ => ?_
  refine ⟨by rw [r1.length]; exact hz, fun p hp => ?_⟩
  have z := (E.step s1 j1).newT (o := .tup vs) hp
  exact q _ _ n1 _ (s1.trans z.1) z.2.1 (.tup (.inl (.inl (hid_at z.2.2))) (r1.mono (rp_upd (K := c.K) hp))) k
theorem wf_lst {Φ : Nat → List D → Prop} (h : WA c as ρ n fun n1 ds => ds.length ≤ sizeLine ∧ Φ n1 ds) : WF c (tLst as) ρ n Φ := fun P L σ H Q E q => by
  refine h P L σ H _ E fun vs ds n1 H1 s1 j1 r1 ⟨hz, k⟩ => ?_
  refine ⟨by rw [r1.length]; exact hz, fun p hp => ?_⟩
  have E1 := E.step s1 j1
  refine q p vs ds n1 _ (s1.trans (E1.newT hp).1) ?_ upd_same (by rw [hid_new_in hp]; exact r1) (E1.newT hp).2.1 k
  cases e : H p with
  | none => rfl
  | some o =>
    by_cases hb : p ∈ c.B
    · exact absurd hp (E1.al p (E.inO hb))
    · rw [(hid_some.mp (s1 p o (hid_some.mpr ⟨hb, e⟩))).2] at hp
      cases hp
/-- a new list as a value -/
theorem wf_we (h : WF c te ρ n fun n1 ds => Φ n1 (.lst ds)) : WE c te ρ n Φ := fun P L σ H Q E q => by
  refine h P L σ H _ E fun p xs ds n1 H1 s1 hp h1 r1 j1 k => ?_
  have w := E.new hp
  have nin : p ∉ L ++ c.O := fun q => by rcases List.mem_append.mp q with q | q; exact w.2.2 q; exact w.2.1 q
  have sub : Same (hid (p :: (L ++ c.O)) H1) (hid (L ++ c.O) H1) := same_hid_sub fun a ha => List.mem_cons_of_mem _ ha
  exact q _ _ n1 H1 s1 j1 (.lst (.inl (by rw [hid_out nin]; exact h1)) (r1.mono sub)) k
theorem we_lst (h : WA c as ρ n fun n1 ds => ds.length ≤ sizeLine ∧ Φ n1 (.lst ds)) : WE c (tLst as) ρ n Φ := wf_we (wf_lst h)

/-! ### calls -/
/-- what a call of values asks, over data -/
def RCD (K : PySem.W.Frag) (r : List V → Hp → VK → Prop) (ds : List D) (Φ : D → Prop) : Prop := ∀ (O : List Addr) (H : Hp) (xs : List V) (Q : VK), RpAll K (hid O H) xs ds → (∀ p, H p = none → p ∉ O) → (∀ v f H', Same H H' → Rp K (hid O H') v f → Φ f → Q v H') → r xs H Q
theorem we_cb {r : List V → Hp → VK → Prop} (h : WA c as ρ n fun n1 ds => RCD c.K r ds (Φ n1)) : WE c (tCB r as) ρ n Φ := fun P L σ H Q E q => by
  refine h P L σ H _ E fun vs ds n1 H1 s1 j1 r1 k => ?_
  have E1 := E.step s1 j1
  refine k (L ++ c.O) H1 vs Q r1 E1.noO fun v f H' s r k => ?_
  have z := E1.same s
  exact q v f n1 H' (s1.trans z.1) z.2 r k
/-- what a def promises, over data: S of the bag, the turns, the arguments, what is wanted -/
abbrev Spec := Option (Addr × Addr) → Nat → List D → (Nat → D → Prop) → Prop
def spD (K : PySem.W.Frag) (S : Spec) : Sp := fun vs H Q _ => ∃ (O : List Addr) (bag : Option (Addr × Addr)) (n : Nat) (ds : List D) (Φ : Nat → D → Prop),
  (∀ b q, bag = some (b, q) → BagOk b q n H ∧ b ∈ O ∧ q ∈ O ∧ q ≠ b) ∧ (∀ o ∈ O, H o ≠ none) ∧ RpAll K (hid O H) vs ds ∧ S bag n ds Φ ∧
  ∀ v d n' H', Same (hid (bag.map (·.1)).toList H) (hid (bag.map (·.1)).toList H') → (∀ b q, bag = some (b, q) → BagOk b q n' H') → Rp K (hid O H') v d → Φ n' d → Q v H'
theorem Env.alLO {P : Hp} {L : List Addr} {n : Nat} {H : Hp} {σ : List (Option V)} (E : Env c P L n H σ ρ) : ∀ o ∈ L ++ c.O, H o ≠ none := fun o ho => by
  rcases List.mem_append.mp ho with q | q
  · obtain ⟨xs, h⟩ := E.lst o q
    rw [h]; exact fun q => by cases q
  · exact E.al o q
/-- the defaults' data -/
theorem we_call {S : Spec} {dvs : List V} {dds : List D} {XE : XK} (hd : ∀ H, RpAll c.K H dvs dds) (h : WA c as ρ n fun n1 ds => S c.bag n1 (ds ++ dds) Φ) : WE c (tCall (spD c.K S) dvs XE as) ρ n Φ := fun P L σ H Q E q => by
  refine h P L σ H _ E fun vs ds n1 H1 s1 j1 r1 k => ?_
  have E1 := E.step s1 j1
  refine ⟨L ++ c.O, c.bag, n1, ds ++ dds, Φ, fun b q hb => ⟨j1 b q hb, List.mem_append_right _ (E.bO b q hb).1, List.mem_append_right _ (E.bO b q hb).2.1, (E.bO b q hb).2.2⟩, E1.alLO, r1.append (hd _), k, fun v d n2 H2 s2 j2 r2 k2 => ?_⟩
  exact q v d n2 H2 (s1.trans s2) j2 r2 k2
theorem we_call0 {S : Spec} {XE : XK} (h : WA c as ρ n fun n1 ds => S c.bag n1 ds Φ) : WE c (tCall (spD c.K S) [] XE as) ρ n Φ := we_call (dds := []) (fun _ => .nil) fun P L σ H Q E q => h P L σ H Q E fun vs ds n1 H1 s1 j1 r1 k => q vs ds n1 H1 s1 j1 r1 (by show S c.bag n1 (ds ++ []) Φ; rw [List.append_nil]; exact k)

/-! ### statements -/
theorem ws_seq (h : WS c ts ρ n { Ψ with nx := fun n1 ρ1 => WS c us ρ1 n1 Ψ }) : WS c (tSeq ts us) ρ n Ψ := fun P L σ H Dn E A =>
  h P L σ H _ E { nx := fun L' n1 H1 σ1 ρ1 E1 k => k P L' σ1 H1 Dn E1 A, rt := A.rt, bk := A.bk, ct := A.ct }
theorem ws_next (k : Ψ.nx n ρ) : WS c tNext ρ n Ψ := fun P L σ H Dn E A => A.nx L n H σ ρ E k
theorem ws_brk (k : Ψ.bk n ρ) : WS c tBreak ρ n Ψ := fun P L σ H Dn E A => A.bk L n H σ ρ E k
theorem ws_cont (k : Ψ.ct n ρ) : WS c tCont ρ n Ψ := fun P L σ H Dn E A => A.ct L n H σ ρ E k
theorem Env.set {P : Hp} {L : List Addr} {n : Nat} {H : Hp} {σ : List (Option V)} (E : Env c P L n H σ ρ) {v : V} {d : D} (i : Nat) (h : Rp c.K (hid (L ++ c.O) H) v d) : Env c P L n H (σ.set i (some v)) (ρ.set i (.val d)) := by
  obtain ⟨Ls, sl, sb⟩ := E.slots
  obtain ⟨L', s, sub⟩ := sl.set h i
  exact E.reslot s (sub.trans sb)
theorem ws_set {i : Nat} (h : WE c te ρ n fun n1 d => Ψ.nx n1 (ρ.set i (.val d))) : WS c (tAsg te (gName i)) ρ n Ψ := fun P L σ H Dn E A => by
  refine h P L σ H _ E fun v d n1 H1 s1 j1 r1 k => ?_
  exact A.nx L n1 H1 _ _ ((E.step s1 j1).set i r1) k
theorem ws_asg {g : TG} (h : WE c te ρ n fun n1 d => WG c (fun _ _ => True) g d ρ n1 fun ρ1 => Ψ.nx n1 ρ1) : WS c (tAsg te g) ρ n Ψ := fun P L σ H Dn E A => by
  refine h P L σ H _ E fun v d n1 H1 s1 j1 r1 k => ?_
  exact k P L σ H1 v _ (E.step s1 j1) r1 fun σ' ρ' E' _ k => A.nx L n1 H1 σ' ρ' E' k
theorem ins_sub {α : Type} {p : α} : ∀ {L1 L2 L : List α}, (L1 ++ L2).Sublist L → ∃ Lp : List α, (L1 ++ p :: L2).Sublist Lp ∧ Lp.Perm (p :: L)
  | [], L2, L, h => ⟨p :: L, h.cons_cons p, List.Perm.refl _⟩
  | a :: L1, L2, L, h => by
    generalize e : a :: L1 ++ L2 = M at h
    induction h with
    | slnil => cases e
    | @cons l1 l2 b s ih =>
      obtain ⟨Lp, h1, h2⟩ := ih e
      exact ⟨b :: Lp, h1.cons b, (h2.cons b).trans (List.Perm.swap p b l2)⟩
    | @cons_cons l1 l2 b s ih =>
      have e' : a = b ∧ L1 ++ L2 = l1 := by simpa using e
      obtain ⟨e1, e2⟩ := e'
      subst e1; subst e2
      obtain ⟨Lp, h1, h2⟩ := ins_sub s
      exact ⟨a :: Lp, h1.cons_cons a, (h2.cons a).trans (List.Perm.swap p a l2)⟩
/-- a new list that is to be changed -/
theorem ws_own {i : Nat} (hi : i < ρ.length) (h : WF c te ρ n fun n1 ds => Ψ.nx n1 (ρ.set i (.own ds))) : WS c (tAsg te (gName i)) ρ n Ψ := fun P L σ H Dn E A => by
  refine h P L σ H _ E fun p xs ds n1 H1 s1 hp h1 r1 j1 k => ?_
  have w := E.new hp
  have nin : p ∉ L ++ c.O := E.noO p hp
  have E1 := E.step s1 j1
  have hs : Same (hid (L ++ c.O) H) (hid (p :: (L ++ c.O)) H1) := fun a o q => by
    obtain ⟨q1, q2⟩ := hid_some.mp q
    have q3 := (hid_some.mp (E.sameLO s1 a o q)).2
    refine hid_some.mpr ⟨fun z => ?_, q3⟩
    rcases List.mem_cons.mp z with z | z
    · subst z; rw [hp] at q2; cases q2
    · exact q1 z
  obtain ⟨Ls, sl0, sb⟩ := E.slots
  have sl : Slots c.pr c.wd c.K (p :: (L ++ c.O)) H1 σ ρ Ls := sl0.move (fun l hl => E.own s1 l (sb.subset hl)) hs
  obtain ⟨L1, L2, L3, sl2, eL, sub⟩ := Slots.setO h1 r1 (fun q => w.2.2 (sb.subset q)) i hi sl
  have e0 : p :: (L ++ c.O) = (p :: L) ++ c.O := rfl
  -- the slots' lists within p :: L: by a permutation's place
  have mv : ∃ Lp : List Addr, (L1 ++ p :: L2).Sublist Lp ∧ Lp.Perm (p :: L) := by
    rw [eL] at sb
    have h5 : (L1 ++ L2).Sublist L := (List.Sublist.append_left sub L1).trans sb
    exact ins_sub h5
  obtain ⟨Lp, sLp, pLp⟩ := mv
  have mem : ∀ a, a ∈ Lp ++ c.O ↔ a ∈ p :: (L ++ c.O) := fun a => by
    rw [e0, List.mem_append, List.mem_append, pLp.mem_iff]
  refine A.nx Lp n1 H1 _ _ ?_ k
  exact { nd := pLp.nodup_iff.mpr (List.nodup_cons.mpr ⟨w.2.2, E.nd⟩),
          fresh := fun l hl => by
            rcases List.mem_cons.mp (pLp.mem_iff.mp hl) with q | q
            · subst q; exact ⟨w.1, w.2.1⟩
            · exact E.fresh l q,
          slots := ⟨_, sl2.move (fun _ _ => rfl) (same_hid_sub fun a ha => (mem a).mp ha), sLp⟩,
          lst := fun l hl => by
            rcases List.mem_cons.mp (pLp.mem_iff.mp hl) with q | q
            · subst q; exact ⟨_, h1⟩
            · exact E1.lst l q,
          bag := j1,
          base := E1.base,
          pers := (E.pers.trans hs).trans (same_hid_sub fun a ha => (mem a).mp ha),
          bO := E.bO, al := E1.al }
theorem Slots.freeze {pr : Program} {wd : World} {K : PySem.W.Frag} {O : List Addr} {H : Hp} {ds : List D} : ∀ {σ : List (Option V)} {ρ : List SD} {L : List Addr} {i : Nat}, Slots pr wd K O H σ ρ L → ρ[i]? = some (.own ds) → ∃ L1 l L2 xs, L = L1 ++ l :: L2 ∧ H l = some (.lst xs) ∧ RpAll K (hid O H) xs ds ∧
    ∀ O' , Same (hid O H) (hid O' H) → l ∉ O' → Slots pr wd K O' H σ (ρ.set i (.val (.lst ds))) (L1 ++ L2)
  | _, _, _, _, .nil, e => by simp at e
  | _, _, _, 0, .un _, e => by simp at e
  | _, _, _, i + 1, .un s, e => by
    obtain ⟨L1, l, L2, xs, h1, h2, h3, h4⟩ := Slots.freeze (i := i) s (by simpa using e)
    exact ⟨L1, l, L2, xs, h1, h2, h3, fun O' a b => .un (h4 O' a b)⟩
  | _, _, _, 0, .val _ _, e => by simp at e
  | _, _, _, i + 1, .val r s, e => by
    obtain ⟨L1, l, L2, xs, h1, h2, h3, h4⟩ := Slots.freeze (i := i) s (by simpa using e)
    exact ⟨L1, l, L2, xs, h1, h2, h3, fun O' a b => .val (r.mono a) (h4 O' a b)⟩
  | _, _, _, 0, .own h r s, e => by
    simp at e
    subst e
    exact ⟨[], _, _, _, rfl, h, r, fun O' a b => .val (.lst (.inl (by rw [hid_out b]; exact h)) (r.mono a)) (s.move (fun _ _ => rfl) a)⟩
  | _, _, _, i + 1, .own h r s, e => by
    obtain ⟨L1, l, L2, xs, h1, h2, h3, h4⟩ := Slots.freeze (i := i) s (by simpa using e)
    exact ⟨_ :: L1, l, L2, xs, by rw [h1]; rfl, h2, h3, fun O' a b => .own h (r.mono a) (h4 O' a b)⟩
  | _, _, _, 0, .dic _ _, e => by simp at e
  | _, _, _, 0, .dk _ _, e => by simp at e
  | _, _, _, 0, .tw _ _, e => by simp at e
  | _, _, _, i + 1, .dic h s, e => by
    obtain ⟨L1, l, L2, xs, h1, h2, h3, h4⟩ := Slots.freeze (i := i) s (by simpa using e)
    exact ⟨_ :: L1, l, L2, xs, by rw [h1]; rfl, h2, h3, fun O' a b => .dic (h.move rfl a) (h4 O' a b)⟩
  | _, _, _, i + 1, .dk h s, e => by
    obtain ⟨L1, l, L2, xs, h1, h2, h3, h4⟩ := Slots.freeze (i := i) s (by simpa using e)
    exact ⟨_ :: L1, l, L2, xs, by rw [h1]; rfl, h2, h3, fun O' a b => .dk (h.move rfl a) (h4 O' a b)⟩
  | _, _, _, i + 1, .tw h s, e => by
    obtain ⟨L1, l, L2, xs, h1, h2, h3, h4⟩ := Slots.freeze (i := i) s (by simpa using e)
    exact ⟨_ :: L1, l, L2, xs, by rw [h1]; rfl, h2, h3, fun O' a b => .tw (h.move rfl a) (h4 O' a b)⟩
theorem Env.freeze {P : Hp} {L : List Addr} {n : Nat} {H : Hp} {σ : List (Option V)} {i : Nat} {ds : List D} (E : Env c P L n H σ ρ) (h : ρ[i]? = some (.own ds)) : ∃ L', Env c P L' n H σ (ρ.set i (.val (.lst ds))) ∧ L'.Sublist L := by
  obtain ⟨Ls, sl, sb⟩ := E.slots
  obtain ⟨L1, l, L2, xs, h1, h2, h3, h4⟩ := sl.freeze h
  have lL : l ∈ L := sb.subset (by rw [h1]; simp)
  have sub : (L.erase l).Sublist L := List.erase_sublist
  have nl : l ∉ L.erase l := E.nd.not_mem_erase
  have sb2 : (L1 ++ L2).Sublist (L.erase l) := by
    have nd := sb.nodup E.nd
    rw [h1] at nd
    have n1 : l ∉ L1 := fun q => by
      have := (List.nodup_append.mp nd).2.2 l q l List.mem_cons_self
      exact this rfl
    have q : (Ls.erase l).Sublist (L.erase l) := sb.erase l
    rw [h1, List.erase_append_right _ n1, List.erase_cons_head] at q
    exact q
  have nO : l ∉ (L.erase l) ++ c.O := fun q => by
    rcases List.mem_append.mp q with q | q
    · exact nl q
    · exact (E.fresh l lL).2 q
  have se : Same (hid (L ++ c.O) H) (hid ((L.erase l) ++ c.O) H) := same_hid_sub fun a ha => by
    rcases List.mem_append.mp ha with q | q
    · exact List.mem_append_left _ (sub.subset q)
    · exact List.mem_append_right _ q
  exact ⟨L.erase l, { nd := sub.nodup E.nd, fresh := fun l hl => E.fresh l (sub.subset hl), slots := ⟨_, h4 _ se nO, sb2⟩, lst := fun l hl => E.lst l (sub.subset hl), base := E.base, pers := E.pers.trans se, bO := E.bO, al := E.al, bag := E.bag }, sub⟩
/-- an own list is handed on, no more changed -/
theorem ws_freeze (i : Nat) {ds : List D} (h : ρ[i]? = some (.own ds)) (k : WS c ts (ρ.set i (.val (.lst ds))) n Ψ) : WS c ts ρ n Ψ := fun P L σ H Dn E A => by
  obtain ⟨L', E', _⟩ := E.freeze h
  exact k P L' σ H Dn E' A
/-- an own list looked at; a scalar comes out -/
def scalar : D → Bool
  | .non => true
  | .bl _ => true
  | .int _ => true
  | .str _ => true
  | _ => false
theorem Rp.scal {K : PySem.W.Frag} {H H' : Hp} {v : V} {d : D} (r : Rp K H v d) (h : scalar d = true) : Rp K H' v d := by
  cases r with
  | non => exact .non
  | bl b => exact .bl b
  | int i => exact .int i
  | str x => exact .str x
  | _ => cases h
theorem wt_look (i : Nat) {Φ : Nat → Bool → Prop} {ds : List D} (h : ρ[i]? = some (.own ds)) (k : WT c t (ρ.set i (.val (.lst ds))) n Φ) : WT c t ρ n Φ := fun P L σ H Q E q => by
  obtain ⟨L', E', sub⟩ := E.freeze h
  exact k P L' σ H Q E' fun b n1 H1 s1 j1 k1 => q b n1 H1 s1 j1 k1
theorem we_look (i : Nat) {ds : List D} (h : ρ[i]? = some (.own ds)) (k : WE c te (ρ.set i (.val (.lst ds))) n fun n1 d => scalar d = true ∧ Φ n1 d) : WE c te ρ n Φ := fun P L σ H Q E q => by
  obtain ⟨L', E', sub⟩ := E.freeze h
  exact k P L' σ H Q E' fun v d n1 H1 s1 j1 r1 ⟨hs, k1⟩ => q v d n1 H1 s1 j1 (r1.scal hs) k1
theorem ws_ret (h : WE c te ρ n Ψ.rt) : WS c (tRet te) ρ n Ψ := fun P L σ H Dn E A => by
  refine h P L σ H _ E fun v d n1 H1 s1 j1 r1 k => ?_
  have E1 := E.step s1 j1
  have se : Same (hid (L ++ c.O) H1) (hid c.O H1) := same_hid_sub fun a ha => List.mem_append_right _ ha
  exact A.rt v d n1 H1 E1.base j1 (r1.mono se) k
theorem ws_retN (k : Ψ.rt n .non) : WS c tRetN ρ n Ψ := fun P L σ H Dn E A => by
  have se : Same (hid (L ++ c.O) H) (hid c.O H) := same_hid_sub fun a ha => List.mem_append_right _ ha
  exact A.rt .non .non n H E.base E.bag .non k
theorem ws_if (h : WT c t ρ n fun n1 b => if b = true then WS c ts ρ n1 Ψ else WS c us ρ n1 Ψ) : WS c (tIfS t ts us) ρ n Ψ := fun P L σ H Dn E A => by
  refine h P L σ H _ E fun b n1 H1 s1 j1 k => ?_
  cases b with
  | true =>
    rw [if_pos rfl] at k ⊢
    exact k P L σ H1 Dn (E.step s1 j1) A
  | false =>
    rw [if_neg Bool.false_ne_true] at k ⊢
    exact k P L σ H1 Dn (E.step s1 j1) A
theorem ws_drop (h : WE c te ρ n fun n1 _ => Ψ.nx n1 ρ) : WS c (tDrop te) ρ n Ψ := fun P L σ H Dn E A => by
  refine h P L σ H _ E fun v d n1 H1 s1 j1 r1 k => ?_
  exact A.nx L n1 H1 σ ρ (E.step s1 j1) k
theorem ws_never (h : False) : WS c ts ρ n Ψ := h.elim
theorem WS.mono {Ψ' : Out} (h : WS c ts ρ n Ψ) (h1 : ∀ n ρ, Ψ.nx n ρ → Ψ'.nx n ρ) (h2 : ∀ n d, Ψ.rt n d → Ψ'.rt n d) (h3 : ∀ n ρ, Ψ.bk n ρ → Ψ'.bk n ρ) (h4 : ∀ n ρ, Ψ.ct n ρ → Ψ'.ct n ρ) : WS c ts ρ n Ψ' := fun P L σ H Dn E A =>
  h P L σ H Dn E { nx := fun L n H σ ρ E k => A.nx L n H σ ρ E (h1 _ _ k), rt := fun v d n H s j r k => A.rt v d n H s j r (h2 _ _ k), bk := fun L n H σ ρ E k => A.bk L n H σ ρ E (h3 _ _ k), ct := fun L n H σ ρ E k => A.ct L n H σ ρ E (h4 _ _ k) }
theorem WE.mono {Φ' : Nat → D → Prop} (h : WE c te ρ n Φ) (k : ∀ n d, Φ n d → Φ' n d) : WE c te ρ n Φ' := fun P L σ H Q E q => h P L σ H Q E fun v d n1 H1 s1 j1 r1 p => q v d n1 H1 s1 j1 r1 (k _ _ p)
theorem WT.mono {Φ Φ' : Nat → Bool → Prop} (h : WT c t ρ n Φ) (k : ∀ n d, Φ n d → Φ' n d) : WT c t ρ n Φ' := fun P L σ H Q E q => h P L σ H Q E fun v n1 H1 s1 j1 p => q v n1 H1 s1 j1 (k _ _ p)

/-! ### targets -/
theorem wg_name {R : ER → ER → Prop} {i : Nat} {d : D} {Φ : List SD → Prop} (hR : ∀ σ v, R σ (σ.set i (some v))) (k : Φ (ρ.set i (.val d))) : WG c R (gName i) d ρ n Φ := fun P L σ H v Q E r q =>
  q _ _ (E.set i r) (hR σ v) k
theorem wgs_nil {R : ER → ER → Prop} {Φ : List SD → Prop} (hR : ∀ σ, R σ σ) (k : Φ ρ) : WGs c R gNil [] ρ n Φ := fun P L σ H vs Q E r q => by
  cases r
  exact ⟨rfl, q σ ρ E (hR σ) k⟩
theorem wgs_cons {R : ER → ER → Prop} {g : TG} {gs : TGs} {d : D} {ds : List D} {Φ : List SD → Prop} (hR : ∀ a b e, R a b → R b e → R a e) (h : WG c R g d ρ n fun ρ1 => WGs c R gs ds ρ1 n Φ) : WGs c R (gCons g gs) (d :: ds) ρ n Φ := fun P L σ H vs Q E r q => by
  cases r with
  | cons r1 r2 =>
    refine ⟨_, _, rfl, ?_⟩
    refine h P L σ H _ _ E r1 fun σ' ρ' E' hR1 k => ?_
    exact k P L σ' H _ _ E' r2 fun σ2 ρ2 E2 hR2 k2 => q σ2 ρ2 E2 (hR _ _ _ hR1 hR2) k2
theorem wg_tup {R : ER → ER → Prop} {m : Nat} {gs : TGs} {ds : List D} {Φ : List SD → Prop} (hl : ds.length = m) (h : WGs c R gs ds ρ n Φ) : WG c R (gTup c.K m gs) (.tup ds) ρ n Φ := fun P L σ H v Q E r q => by
  cases r with
  | tup hs ha =>
    exact ⟨_, _, rfl, same_t same_hid hs, by rw [ha.length]; exact hl, h P L σ H _ Q E ha q⟩

/-! ### loops -/
theorem ws_for {wi : TI} {g : TG} (h : WI c wi ρ n fun n1 ds => ∃ I : Nat → Nat → List SD → Prop, I 0 n1 ρ ∧
    (∀ k m ρ1 d, ds[k]? = some d → I k m ρ1 → WG c (fun _ _ => True) g d ρ1 m fun ρ2 => WS c ts ρ2 m { nx := I (k + 1), ct := I (k + 1), bk := Ψ.nx, rt := Ψ.rt }) ∧ (∀ m ρ1, I ds.length m ρ1 → Ψ.nx m ρ1)) : WS c (tFor wi g ts) ρ n Ψ := fun P L σ H Dn E A => by
  refine h P L σ H _ E fun J ds n1 H1 s1 j1 it ⟨I, h0, hs, hd⟩ => ?_
  have E1 := (E.step s1 j1).pers'
  have pp : Same P (hid (L ++ c.O) H1) := (E.step s1 j1).pers
  have A' : Acc c (hid (L ++ c.O) H1) Ψ Dn := { nx := fun L n H σ ρ E k => A.nx L n H σ ρ (E.persOf pp) k, rt := A.rt, bk := fun L n H σ ρ E k => A.bk L n H σ ρ (E.persOf pp) k, ct := fun L n H σ ρ E k => A.ct L n H σ ρ (E.persOf pp) k }
  refine ⟨fun i m σ H => m + i = ds.length ∧ ∃ L' n' ρ', Env c (hid (L ++ c.O) H1) L' n' H σ ρ' ∧ I i n' ρ', ⟨ds.length, rfl, L, n1, ρ, E1, h0⟩, ?_⟩
  rintro i m σ' H' ⟨hm, L', n', ρ', E', hI⟩
  by_cases hi : i < ds.length
  · right
    have hg : ds[i]? = some ds[i] := List.getElem?_eq_getElem hi
    obtain ⟨go, yl⟩ := it.go L' n' H' σ' ρ' E' i _ hg
    refine ⟨go, fun σ2 H2 => ∃ L2 n2 ρ2, Env c (hid (L ++ c.O) H1) L2 n2 H2 σ2 ρ2 ∧ I (i + 1) n2 ρ2, ?_, ?_⟩
    · rintro σ2 H2 ⟨L2, n2, ρ2, E2, hI2⟩
      exact ⟨m - 1, by omega, by omega, L2, n2, ρ2, E2, hI2⟩
    · intro x H2 hy
      obtain ⟨sm, rx⟩ := yl x H2 hy
      have z := E'.same sm
      refine hs i n' ρ' _ hg hI _ L' σ' H2 x _ (E'.step z.1 z.2) rx fun σ3 ρ3 E3 _ k3 => ?_
      exact k3 _ L' σ3 H2 _ E3 { nx := fun L n H σ ρ E k => ⟨L, n, ρ, E, k⟩, rt := A.rt, bk := fun L n H σ ρ E k => A'.nx L n H σ ρ E k, ct := fun L n H σ ρ E k => ⟨L, n, ρ, E, k⟩ }
  · left
    have e : i = ds.length := by omega
    subst e
    exact ⟨it.stop L' n' H' σ' ρ' E' _ (Nat.le_refl _), A'.nx L' n' H' σ' ρ' E' (hd n' ρ' hI)⟩
end
end L3
/-! L3c: walks, comprehensions, operations. -/
namespace L3
open PySem L2

/-! ### walks -/
def signs (z : Str) : List D := z.cps.toList.map fun c => D.str ⟨#[c]⟩
def items : D → Option (List D)
  | .lst xs => some xs
  | .tup xs => some xs
  | .str z => some (signs z)
  | _ => none
def iSeq (K : PySem.W.Frag) (tl : TE) : TI := fun σ H R => tl σ H fun x H1 => (∃ a, x = .ref a ∧ (((∃ xs, SqL K H1 a xs) ∧ R (Itl K a) H1) ∨ ((∃ xs, SqT K H1 a xs) ∧ R (Itt K a) H1)))
theorem pi_seq {X : Cx} {tg l : Expr} {tl : TE} (hl : PE X l tl) : PI X tg l (iSeq X.K tl) := by
  refine ⟨fun pins s σ H R I h => ?_⟩
  refine thn (hl.run pins s σ H _ I h) fun v s1 ⟨x, H1, I1, r1, q1⟩ => ?_
  obtain ⟨a, e, ⟨⟨xs, hq⟩, q⟩ | ⟨⟨xs, hq⟩, q⟩⟩ := q1
  · subst e
    cases r1
    obtain ⟨its, rv, p, hz⟩ := I1.list hq
    refine wpAny_pyIter_list p.isList ?_
    refine ⟨s1.heap.objs.size, [s1.heap.objs.size], _, _, H1, rfl, I1.kept (t' := s1.toks) fun b o e => Heap.get?_push_of_some _ e, turn_list a _, ⟨_, Heap.get?_push_size _ rfl, rfl, rfl⟩, fun b hb => ?_, q⟩
    have e : b = s1.heap.objs.size := by simpa using hb
    subst e
    exact I1.fpOk (Nat.le_refl _) (I1.hok.fresh (Nat.le_refl _))
  · subst e
    cases r1
    obtain ⟨its, rv, p, hz⟩ := I1.tuple hq
    refine wpAny_pyIter_tuple (show s1.heap.IsTuple a its.toArray from p) ?_
    refine ⟨s1.heap.objs.size, [s1.heap.objs.size], _, _, H1, rfl, I1.kept (t' := s1.toks) fun b o e => Heap.get?_push_of_some _ e, turn_tuple a _, ⟨_, Heap.get?_push_size _ rfl, rfl, rfl⟩, fun b hb => ?_, q⟩
    have e : b = s1.heap.objs.size := by simpa using hb
    subst e
    exact I1.fpOk (Nat.le_refl _) (I1.hok.fresh (Nat.le_refl _))
section
variable {c : Ctx} {ρ : List SD} {n : Nat} {ta tb te : TE} {t u : TT} {as : TA} {Φ : Nat → D → Prop} {Ψ : Out} {ts us : TS}
theorem Env.perR {P : Hp} {L : List Addr} {n : Nat} {H : Hp} {σ : List (Option V)} (E : Env c P L n H σ ρ) : Same P H := E.pers.trans same_hid
theorem it_l {a : Addr} {xs : List V} {ds : List D} {P : Hp} (hs : SqL c.K P a xs) (hr : RpAll c.K P xs ds) : ItOk c (Itl c.K a) ds P where
  go := fun L n H σ ρ E i d hd => by
    obtain ⟨v, h1, h2⟩ := hr.get' hd
    refine ⟨⟨xs, v, same_l E.perR hs, h1⟩, fun x H' ⟨e, hy⟩ => ?_⟩
    subst e
    have e := hy xs (same_l E.perR hs)
    rw [h1] at e
    cases e
    exact ⟨Same.refl _, h2.mono E.pers⟩
  stop := fun L n H σ ρ E i hi => ⟨xs, same_l E.perR hs, by rw [hr.length]; exact hi⟩
theorem it_t {a : Addr} {xs : List V} {ds : List D} {P : Hp} (hs : SqT c.K P a xs) (hr : RpAll c.K P xs ds) : ItOk c (Itt c.K a) ds P where
  go := fun L n H σ ρ E i d hd => by
    obtain ⟨v, h1, h2⟩ := hr.get' hd
    refine ⟨⟨xs, v, same_t E.perR hs, h1⟩, fun x H' ⟨e, hy⟩ => ?_⟩
    subst e
    have e := hy xs (same_t E.perR hs)
    rw [h1] at e
    cases e
    exact ⟨Same.refl _, h2.mono E.pers⟩
  stop := fun L n H σ ρ E i hi => ⟨xs, same_t E.perR hs, by rw [hr.length]; exact hi⟩
def seqD : D → Option (List D)
  | .lst xs => some xs
  | .tup xs => some xs
  | _ => none
theorem wi_seq {Φ : Nat → List D → Prop} (h : WE c te ρ n fun n1 d => ∃ ds, seqD d = some ds ∧ Φ n1 ds) : WI c (iSeq c.K te) ρ n Φ := fun P L σ H R E q => by
  refine h P L σ H _ E fun x d n1 H1 s1 j1 r1 ⟨ds, e, k⟩ => ?_
  cases r1 with
  | lst hs ha =>
    cases e
    exact ⟨_, rfl, .inl ⟨⟨_, .inl (same_rd same_hid hs)⟩, q _ _ n1 H1 s1 j1 (it_l (.inl hs) ha) k⟩⟩
  | tup hs ha =>
    cases e
    exact ⟨_, rfl, .inr ⟨⟨_, same_t same_hid hs⟩, q _ _ n1 H1 s1 j1 (it_t hs ha) k⟩⟩
  | _ => cases e
def rangeD (lo : Int) (m : Nat) : List D := (List.range m).map fun k => D.int (lo + (k : Nat))
theorem rangeD_get {lo : Int} {m i : Nat} {d : D} (h : (rangeD lo m)[i]? = some d) : i < m ∧ d = .int (lo + i) := by
  unfold rangeD at h
  rw [List.getElem?_map] at h
  by_cases hi : i < m
  · rw [List.getElem?_range hi] at h
    exact ⟨hi, (Option.some.inj h).symm⟩
  · rw [List.getElem?_eq_none (by simp; omega)] at h
    cases h
theorem rangeD_len {lo : Int} {m : Nat} : (rangeD lo m).length = m := by unfold rangeD; simp
theorem it_r {lo : Int} {m : Nat} {P : Hp} : ItOk c (Itr lo m) (rangeD lo m) P where
  go := fun L n H σ ρ E i d hd => by
    obtain ⟨h1, h2⟩ := rangeD_get hd
    refine ⟨h1, fun x H' ⟨e, hy⟩ => ?_⟩
    subst e; subst hy; subst h2
    exact ⟨Same.refl _, .int _⟩
  stop := fun L n H σ ρ E i hi => by rw [rangeD_len] at hi; exact hi
theorem wi_rng1 {Φ : Nat → List D → Prop} (h : WA c as ρ n fun n1 ds => ∃ j : Int, ds = [.int j] ∧ -(2 ^ 62) ≤ j ∧ j < 2 ^ 62 ∧ Φ n1 (rangeD 0 j.toNat)) : WI c (iRng1 as) ρ n Φ := fun P L σ H R E q => by
  refine h P L σ H _ E fun vs ds n1 H1 s1 j1 r1 ⟨j, e, h1, h2, k⟩ => ?_
  subst e
  cases r1 with
  | cons r rr =>
    cases rr
    cases r
    exact ⟨j, rfl, h1, h2, q _ _ n1 H1 s1 j1 it_r k⟩
theorem wi_rng2 {Φ : Nat → List D → Prop} (h : WA c as ρ n fun n1 ds => ∃ i j : Int, ds = [.int i, .int j] ∧ (-(2 ^ 62) ≤ i ∧ i < 2 ^ 62 ∧ -(2 ^ 62) ≤ j ∧ j < 2 ^ 62) ∧ Φ n1 (rangeD i (j - i).toNat)) : WI c (iRng2 as) ρ n Φ := fun P L σ H R E q => by
  refine h P L σ H _ E fun vs ds n1 H1 s1 j1 r1 ⟨i, j, e, h1, k⟩ => ?_
  subst e
  cases r1 with
  | cons r rr =>
    cases rr with
    | cons r2 rr =>
      cases rr
      cases r
      cases r2
      exact ⟨i, j, rfl, h1, q _ _ n1 H1 s1 j1 it_r k⟩
/-- pairs (i, x) -/
def enumD (i : Int) : List D → List D
  | [] => []
  | d :: ds => .tup [.int i, d] :: enumD (i + 1) ds
theorem enumD_len : ∀ (ds : List D) (i : Int), (enumD i ds).length = ds.length
  | [], _ => rfl
  | _ :: ds, i => by show (enumD (i + 1) ds).length + 1 = ds.length + 1; rw [enumD_len ds]
theorem enumD_get : ∀ {ds : List D} {i : Int} {k : Nat} {d : D}, (enumD i ds)[k]? = some d → ∃ e, ds[k]? = some e ∧ d = .tup [.int (i + k), e]
  | [], i, k, d, h => by simp [enumD] at h
  | x :: ds, i, 0, d, h => by
    simp [enumD] at h
    exact ⟨x, rfl, by rw [← h]; simp⟩
  | x :: ds, i, k + 1, d, h => by
    obtain ⟨e, h1, h2⟩ := enumD_get (ds := ds) (i := i + 1) (k := k) (by simpa [enumD] using h)
    refine ⟨e, by simpa using h1, ?_⟩
    rw [h2]
    have : i + 1 + (k : Int) = i + ((k + 1 : Nat) : Int) := by omega
    rw [this]
theorem it_e {a : Addr} {xs : List V} {ds : List D} {P : Hp} (hs : SqL c.K P a xs) (hr : RpAll c.K P xs ds) : ItOk c (Ite c.K a) (enumD 0 ds) P where
  go := fun L n H σ ρ E i d hd => by
    obtain ⟨e, h1, h2⟩ := enumD_get hd
    obtain ⟨v, g1, g2⟩ := hr.get' h1
    subst h2
    refine ⟨⟨xs, v, same_l E.perR hs, g1⟩, fun x H' ⟨T, y, e1, e2, e3, hy⟩ => ?_⟩
    subst e1; subst e3
    have e4 := hy xs (same_l E.perR hs)
    rw [g1] at e4
    cases e4
    have sm := same_upd_new (o := .tup [.int (i : Nat), v]) e2
    refine ⟨sm, .tup (.inl (.inl (hid_at (E.noO T e2)))) (.cons ?_ (.cons ((g2.mono E.pers).mono (same_hid_of sm)) .nil))⟩
    have e5 : (0 : Int) + (i : Int) = (i : Int) := by omega
    rw [e5]
    exact .int _
  stop := fun L n H σ ρ E i hi => by
    rw [enumD_len] at hi
    exact ⟨xs, same_l E.perR hs, by rw [hr.length]; exact hi⟩
theorem wi_enum {Φ : Nat → List D → Prop} (h : WA c as ρ n fun n1 ds => ∃ xs, ds = [.lst xs] ∧ Φ n1 (enumD 0 xs)) : WI c (iEnum c.K as) ρ n Φ := fun P L σ H R E q => by
  refine h P L σ H _ E fun vs ds n1 H1 s1 j1 r1 ⟨xs, e, k⟩ => ?_
  subst e
  cases r1 with
  | cons r rr =>
    cases rr
    cases r with
    | lst hs ha => exact ⟨_, _, rfl, .inl (same_rd same_hid hs), q _ _ n1 H1 s1 j1 (it_e (.inl hs) ha) k⟩

/-! ### comprehensions -/
def wipeR (ρ : List SD) : List Nat → List SD
  | [] => ρ
  | v :: vs => (wipeR ρ vs).set v .un
theorem Slots.unset {pr : Program} {wd : World} {K : PySem.W.Frag} {O : List Addr} {H : Hp} : ∀ {σ : List (Option V)} {ρ : List SD} {L : List Addr} (i : Nat), Slots pr wd K O H σ ρ L → ∃ L', Slots pr wd K O H (σ.set i none) (ρ.set i .un) L' ∧ L'.Sublist L
  | _, _, _, _, .nil => ⟨[], .nil, List.Sublist.refl _⟩
  | _, _, _, 0, .un s => ⟨_, .un s, List.Sublist.refl _⟩
  | _, _, _, 0, .val _ s => ⟨_, .un s, List.Sublist.refl _⟩
  | _, _, _, 0, .own _ _ s => ⟨_, .un s, List.sublist_cons_self _ _⟩
  | _, _, _, i + 1, .un s => by
    obtain ⟨L', h1, h2⟩ := Slots.unset i s
    exact ⟨L', .un h1, h2⟩
  | _, _, _, i + 1, .val h s => by
    obtain ⟨L', h1, h2⟩ := Slots.unset i s
    exact ⟨L', .val h h1, h2⟩
  | _, _, _, i + 1, .own h r s => by
    obtain ⟨L', h1, h2⟩ := Slots.unset i s
    exact ⟨_ :: L', .own h r h1, h2.cons_cons _⟩
  | _, _, _, 0, .dic _ s => ⟨_, .un s, List.sublist_cons_self _ _⟩
  | _, _, _, 0, .dk _ s => ⟨_, .un s, List.sublist_cons_self _ _⟩
  | _, _, _, 0, .tw _ s => ⟨_, .un s, List.sublist_cons_self _ _⟩
  | _, _, _, i + 1, .dic h s => by
    obtain ⟨L', h1, h2⟩ := Slots.unset i s
    exact ⟨_ :: L', .dic h h1, h2.cons_cons _⟩
  | _, _, _, i + 1, .dk h s => by
    obtain ⟨L', h1, h2⟩ := Slots.unset i s
    exact ⟨_ :: L', .dk h h1, h2.cons_cons _⟩
  | _, _, _, i + 1, .tw h s => by
    obtain ⟨L', h1, h2⟩ := Slots.unset i s
    exact ⟨_ :: L', .tw h h1, h2.cons_cons _⟩
theorem Slots.wipe {pr : Program} {wd : World} {K : PySem.W.Frag} {O : List Addr} {H : Hp} {σ : List (Option V)} {ρ : List SD} {L : List Addr} (s : Slots pr wd K O H σ ρ L) : ∀ vs : List Nat, ∃ L', Slots pr wd K O H (wipe σ vs) (wipeR ρ vs) L' ∧ L'.Sublist L
  | [] => ⟨L, s, List.Sublist.refl _⟩
  | v :: vs => by
    obtain ⟨L1, h1, h2⟩ := Slots.wipe s vs
    obtain ⟨L2, h3, h4⟩ := h1.unset v
    exact ⟨L2, h3, h4.trans h2⟩
theorem wipe_set {σ : List (Option V)} {i : Nat} {v : V} : ∀ {vs : List Nat}, i ∈ vs → wipe (σ.set i (some v)) vs = wipe σ vs
  | w :: vs, h => by
    show (wipe (σ.set i (some v)) vs).set w none = (wipe σ vs).set w none
    by_cases hi : i ∈ vs
    · rw [wipe_set hi]
    · have hw : w = i := by
        rcases List.mem_cons.mp h with e | e
        · exact e.symm
        · exact absurd e hi
      subst hw
      have z : ∀ us : List Nat, w ∉ us → wipe (σ.set w (some v)) us = (wipe σ us).set w (some v) := by
        intro us
        induction us with
        | nil => intro _; rfl
        | cons u us ih =>
          intro hn
          show (wipe (σ.set w (some v)) us).set u none = ((wipe σ us).set u none).set w (some v)
          rw [ih fun q => hn (List.mem_cons_of_mem _ q)]
          exact List.set_comm _ _ fun e => hn (by rw [e]; exact List.mem_cons_self)
      rw [z vs hi, List.set_set]
theorem wipe_get {i : Nat} : ∀ {vs : List Nat} {σ : List (Option V)}, (wipe σ vs)[i]? = if i ∈ vs then σ[i]?.map fun _ => none else σ[i]?
  | [], σ => by simp [wipe]
  | v :: vs, σ => by
    show ((wipe σ vs).set v none)[i]? = _
    rw [List.getElem?_set]
    by_cases e : v = i
    · subst e
      rw [if_pos rfl, if_pos List.mem_cons_self]
      by_cases hl : v < (wipe σ vs).length
      · rw [if_pos hl]
        rw [wipe_length] at hl
        rw [List.getElem?_eq_getElem hl]; rfl
      · rw [if_neg hl]
        rw [wipe_length] at hl
        rw [List.getElem?_eq_none (by omega)]; rfl
    · rw [if_neg e, wipe_get]
      by_cases h : i ∈ vs
      · rw [if_pos h, if_pos (List.mem_cons_of_mem _ h)]
      · rw [if_neg h, if_neg (fun q => by rcases List.mem_cons.mp q with z | z; exact e z.symm; exact h z)]
theorem wipe_idem (σ : List (Option V)) (vs : List Nat) : wipe (wipe σ vs) vs = wipe σ vs := by
  apply List.ext_getElem?
  intro i
  rw [wipe_get, wipe_get]
  by_cases h : i ∈ vs
  · rw [if_pos h, if_pos h]; cases σ[i]? <;> rfl
  · rw [if_neg h, if_neg h]
theorem Slots.inj {pr : Program} {wd : World} {K : PySem.W.Frag} {O O' : List Addr} {H H' : Hp} : ∀ {σ : List (Option V)} {ρ : List SD} {L L' : List Addr}, Slots pr wd K O H σ ρ L → Slots pr wd K O' H' σ ρ L' → L = L'
  | _, _, _, _, .nil, .nil => rfl
  | _, _, _, _, .un s, .un t => Slots.inj s t
  | _, _, _, _, .val _ s, .val _ t => Slots.inj s t
  | _, _, _, _, .own _ _ s, .own _ _ t => by rw [Slots.inj s t]
  | _, _, _, _, .dic _ s, .dic _ t => by rw [Slots.inj s t]
  | _, _, _, _, .dk _ s, .dk _ t => by rw [Slots.inj s t]
  | _, _, _, _, .tw _ s, .tw _ t => by rw [Slots.inj s t]
theorem Env.noneB {P : Hp} {L : List Addr} {n n' : Nat} {H H' : Hp} {σ : List (Option V)} (E : Env c P L n H σ ρ) (e : Same (hid c.B H) (hid c.B H')) (j : c.J n' H') {p : Addr} (hp : H' p = none) : H p = none := by
  cases h : H p with
  | none => rfl
  | some o =>
    by_cases hb : p ∈ c.B
    · exact absurd hp ((E.step e j).al p (E.inO hb))
    · rw [(hid_some.mp (e p o (hid_some.mpr ⟨hb, h⟩))).2] at hp
      cases hp
theorem same_upd_old {B : List Addr} {H H' : Hp} {D : Addr} {o : HO} (h : H D = none) (s : Same (hid B H) (hid B H')) : Same (hid B H) (hid B (upd H' D o)) := fun a u e => by
  obtain ⟨h1, h2⟩ := hid_some.mp (s a u e)
  have ne : a ≠ D := fun q => by
    rw [q, hid_some, h] at e
    cases e.2
  exact hid_some.mpr ⟨h1, by rw [upd_ne ne]; exact h2⟩
/-- what the store to a comprehension's own names leaves -/
abbrev RW (vs : List Nat) : ER → ER → Prop := fun a b => wipe b vs = wipe a vs
theorem rw_name {vs : List Nat} {i : Nat} (h : i ∈ vs) : ∀ (σ : ER) (v : V), RW vs σ (σ.set i (some v)) := fun σ v => wipe_set h
theorem rw_refl {vs : List Nat} : ∀ σ : ER, RW vs σ σ := fun _ => rfl
theorem rw_trans {vs : List Nat} : ∀ a b e : ER, RW vs a b → RW vs b e → RW vs a e := fun _ _ _ h1 h2 => h2.trans h1
/-- the new list of a comprehension grows -/
theorem Env.grow {P : Hp} {L : List Addr} {n : Nat} {H : Hp} {σ : List (Option V)} {D : Addr} {xs : List V} {Ls : List Addr} (E : Env c P L n H σ ρ) (hD : D ∈ L) (sl : Slots c.pr c.wd c.K (L ++ c.O) H σ ρ Ls) (sb : Ls.Sublist L) (hn : D ∉ Ls) : Env c P L n (upd H D (.lst xs)) σ ρ := by
  have hm : D ∈ L ++ c.O := List.mem_append_left _ hD
  have hB : D ∉ c.B := E.notB hD
  have hO : D ∉ c.O := (E.fresh D hD).2
  exact { nd := E.nd, fresh := E.fresh,
          slots := ⟨Ls, sl.move (fun l hl => upd_ne fun e => hn (e ▸ hl)) (by rw [hid_upd_in hm]; exact Same.refl _), sb⟩,
          lst := fun l hl => by
            by_cases e : l = D
            · exact ⟨_, by rw [e, upd_same]⟩
            · rw [upd_ne e]; exact E.lst l hl,
          bag := fun b q hb => (E.bag b q hb).move (fun o h => by rw [upd_ne fun e : b = D => hO (e ▸ (E.bO b q hb).1)]; exact h) fun o h => by rw [upd_ne fun e : q = D => hO (e ▸ (E.bO b q hb).2.1)]; exact h,
          base := fun a o h => by
            have h0 : c.H0 D = none := (E.fresh D hD).1
            have ne : a ≠ D := fun e => by
              rw [e, hid_some] at h
              rw [h0] at h
              cases h.2
            obtain ⟨h1, h2⟩ := hid_some.mp (E.base a o h)
            exact hid_some.mpr ⟨h1, by rw [upd_ne ne]; exact h2⟩,
          pers := by rw [hid_upd_in hm]; exact E.pers,
          bO := E.bO,
          al := fun o ho => by rw [upd_ne fun e : o = D => hO (e ▸ ho)]; exact E.al o ho }
theorem Env.newOwn {P : Hp} {L : List Addr} {n : Nat} {H : Hp} {σ : List (Option V)} {D : Addr} {xs : List V} (E : Env c P L n H σ ρ) (hD : H D = none) : Env c P (D :: L) n (upd H D (.lst xs)) σ ρ := by
  have w := E.new hD
  obtain ⟨Ls, sl, sb⟩ := E.slots
  have e0 : hid ((D :: L) ++ c.O) (upd H D (.lst xs)) = hid (L ++ c.O) H := hid_new_in hD
  exact { nd := List.nodup_cons.mpr ⟨w.2.2, E.nd⟩,
          fresh := fun l hl => by
            rcases List.mem_cons.mp hl with e | e
            · subst e; exact ⟨w.1, w.2.1⟩
            · exact E.fresh l e,
          slots := ⟨Ls, sl.move (fun l hl => upd_ne fun e => w.2.2 (e ▸ sb.subset hl)) (by rw [e0]; exact Same.refl _), sb.cons _⟩,
          lst := fun l hl => by
            rcases List.mem_cons.mp hl with e | e
            · subst e; exact ⟨_, upd_same⟩
            · rw [upd_ne fun q : l = D => w.2.2 (q ▸ e)]; exact E.lst l e,
          bag := (E.newT hD).2.1,
          base := E.base.trans (E.newT hD).1,
          pers := by rw [e0]; exact E.pers,
          bO := E.bO,
          al := fun o ho => by rw [upd_ne fun e : o = D => w.2.1 (e ▸ ho)]; exact E.al o ho }
theorem wf_lc {wi : TI} {g : TG} {vs : List Nat} {Φ : Nat → List D → Prop} (h : WI c wi ρ n fun n1 ds => ∃ I : Nat → Nat → List D → Prop, I 0 n1 [] ∧
    (∀ k m acc d, ds[k]? = some d → I k m acc → WG c (RW vs) g d (wipeR ρ vs) m fun ρ2 => WT c t ρ2 m fun m2 b => if b = true then WE c te ρ2 m2 fun m3 y => acc.length < sizeLine ∧ I (k + 1) m3 (acc ++ [y]) else I (k + 1) m2 acc) ∧
    (∀ m acc, I ds.length m acc → Φ m acc)) : WF c (tLc wi g t te vs) ρ n Φ := fun P L σ H Q E q => by
  refine h P L σ H _ E fun J ds n1 H1 s1 j1 it ⟨I, h0, hs, hd⟩ => ?_
  intro D hD
  have E1 := (E.step s1 j1).pers'
  obtain ⟨Ls, sl, sb⟩ := E1.slots
  obtain ⟨Lw, slw, sbw⟩ := sl.wipe vs
  have Ew : Env c (hid (L ++ c.O) H1) L n1 H1 (wipe σ vs) (wipeR ρ vs) := E1.reslot slw (sbw.trans sb)
  have E2 := Ew.newOwn (xs := []) hD
  have DnL : D ∉ L := (E1.new hD).2.2
  -- the loop's invariant
  refine ⟨fun i m H' => m + i = ds.length ∧ ∃ n' xs acc, Env c (hid (L ++ c.O) H1) (D :: L) n' H' (wipe σ vs) (wipeR ρ vs) ∧ H' D = some (.lst xs) ∧ RpAll c.K (hid ((D :: L) ++ c.O) H') xs acc ∧ Same (hid c.B H1) (hid c.B H') ∧ I i n' acc, ⟨ds.length, rfl, n1, [], [], E2, upd_same, .nil, (E1.newT hD).1, h0⟩, ?_⟩
  rintro i m H' ⟨hm, n', xs, acc, E', hDx, hacc, sB, hI⟩
  by_cases hi : i < ds.length
  · right
    have hg : ds[i]? = some ds[i] := List.getElem?_eq_getElem hi
    obtain ⟨go, yl⟩ := it.go (D :: L) n' H' _ _ E' i _ hg
    refine ⟨go, fun H2 => ∃ n' xs acc, Env c (hid (L ++ c.O) H1) (D :: L) n' H2 (wipe σ vs) (wipeR ρ vs) ∧ H2 D = some (.lst xs) ∧ RpAll c.K (hid ((D :: L) ++ c.O) H2) xs acc ∧ Same (hid c.B H1) (hid c.B H2) ∧ I (i + 1) n' acc, ?_, ?_⟩
    · rintro H2 ⟨n2, xs2, acc2, a1, a2, a3, a4, a5⟩
      exact ⟨m - 1, by omega, by omega, n2, xs2, acc2, a1, a2, a3, a4, a5⟩
    · intro x H2 hy
      obtain ⟨sm, rx⟩ := yl x H2 hy
      have z := E'.same sm
      have E2' := E'.step z.1 z.2
      refine hs i n' acc _ hg hI _ (D :: L) _ H2 x _ E2' rx fun σ3 ρ3 E3 hw k3 => ?_
      refine ⟨hw.trans (wipe_idem σ vs), ?_⟩
      refine k3 _ (D :: L) σ3 H2 _ E3 fun b n4 H4 s4 j4 k4 => ?_
      have back : ∀ {H5 : Hp} {n5 : Nat}, Same (hid c.B H2) (hid c.B H5) → c.J n5 H5 → Env c (hid (L ++ c.O) H1) (D :: L) n5 H5 (wipe σ vs) (wipeR ρ vs) := fun s5 j5 => E2'.step s5 j5
      have own : ∀ {H5 : Hp}, Same (hid c.B H2) (hid c.B H5) → H5 D = some (.lst xs) := fun s5 => by
        rw [E2'.own s5 D List.mem_cons_self]
        exact sm D _ hDx
      have accs : ∀ {H5 : Hp}, Same (hid c.B H2) (hid c.B H5) → RpAll c.K (hid ((D :: L) ++ c.O) H5) xs acc := fun s5 => (hacc.mono (same_hid_of sm)).mono (E2'.sameLO s5)
      cases b with
      | false =>
        rw [if_neg Bool.false_ne_true] at k4 ⊢
        exact ⟨n4, xs, acc, back s4 j4, own s4, accs s4, (sB.trans z.1).trans s4, k4⟩
      | true =>
        rw [if_pos rfl] at k4 ⊢
        refine k4 _ (D :: L) σ3 H4 _ (E3.step s4 j4) fun y d n5 H5 s5 j5 r5 ⟨hz, k5⟩ => ?_
        have s45 := s4.trans s5
        refine ⟨xs, own s45, by rw [hacc.length]; exact hz, n5, xs ++ [y], acc ++ [d], ?_, upd_same, ?_, ?_, k5⟩
        · have Eb := back s45 j5
          obtain ⟨Ls5, sl5, sb5⟩ := Eb.slots
          have e5 := sl5.inj slw
          subst e5
          exact Eb.grow List.mem_cons_self sl5 sb5 fun q => DnL ((sbw.trans sb).subset q)
        · have hm : D ∈ (D :: L) ++ c.O := List.mem_append_left _ List.mem_cons_self
          rw [hid_upd_in hm]
          exact (accs s45).append (.cons r5 .nil)
        · exact same_upd_old hD ((sB.trans z.1).trans s45)
  · left
    have e : i = ds.length := by omega
    subst e
    refine ⟨it.stop (D :: L) n' H' _ _ E' _ (Nat.le_refl _), ?_⟩
    exact q D xs acc n' H' (s1.trans sB) (E.noneB s1 j1 hD) hDx hacc E'.bag (hd n' acc hI)
end
end L3
/-! L3d: operations over data. -/
namespace L3
open PySem L2

/-! ### data as the library's data -/
mutual
def dpy : D → PyData
  | .non => .none
  | .bl b => .bool b
  | .int i => .int i
  | .str s => .str s
  | .lst xs => .list (dpyAll xs)
  | .tup xs => .tuple (dpyAll xs)
  | .obj _ _ => .none
  | .dct _ => .none
  | .dcn _ _ _ => .none
  | .adr _ => .none
  | .ty _ => .none
def dpyAll : List D → List PyData
  | [] => []
  | x :: xs => dpy x :: dpyAll xs
end
mutual
def plain : D → Bool
  | .lst xs => plainAll xs
  | .tup xs => plainAll xs
  | .obj _ _ => false
  | .dct _ => false
  | .dcn _ _ _ => false
  | .adr _ => false
  | .ty _ => false
  | _ => true
def plainAll : List D → Bool
  | [] => true
  | x :: xs => plain x && plainAll xs
end
theorem dpyAll_map : ∀ xs : List D, dpyAll xs = xs.map dpy
  | [] => rfl
  | x :: xs => by show dpy x :: dpyAll xs = _; rw [dpyAll_map xs]; rfl
section
variable {K : PySem.W.Frag} {H : Hp}
mutual
theorem dp_D : ∀ (d : D) (v : V), Rp K H v d → plain d = true → Dp K H v (dpy d)
  | .non, _, h, _ => by cases h; exact .non
  | .bl b, _, h, _ => by cases h; exact .bl b
  | .int i, _, h, _ => by cases h; exact .int i
  | .str x, _, h, _ => by cases h; exact .str x
  | .lst xs, _, h, p => by
    cases h with
    | lst h r => exact .lst (.inl h) (dp_Ds xs _ r p)
  | .tup xs, _, h, p => by
    cases h with
    | tup h r => exact .tup h (dp_Ds xs _ r p)
  | .obj _ _, _, _, p => by cases p
  | .adr _, _, _, p => by cases p
  | .ty _, _, _, p => by cases p
  | .dct _, _, _, p => by cases p
  | .dcn _ _ _, _, _, p => by cases p
theorem dp_Ds : ∀ (ds : List D) (vs : List V), RpAll K H vs ds → plainAll ds = true → DpAll K H vs (dpyAll ds)
  | [], _, h, _ => by cases h; exact .nil
  | x :: xs, _, h, p => by
    cases h with
    | cons h r =>
      have p' : (plain x && plainAll xs) = true := p
      rw [Bool.and_eq_true] at p'
      exact .cons (dp_D x _ h p'.1) (dp_Ds xs _ r p'.2)
end
theorem Rp.dp {v : V} {d : D} (h : Rp K H v d) (p : plain d = true) : Dp K H v (dpy d) := dp_D d v h p
theorem RpAll.dp {vs : List V} {ds : List D} (h : RpAll K H vs ds) (p : plainAll ds = true) : DpAll K H vs (dpyAll ds) := dp_Ds ds vs h p
mutual
theorem Dp.mono {H' : Hp} (e : Same H H') : ∀ {v : V} {d : PyData}, Dp K H v d → Dp K H' v d
  | _, _, .non => .non
  | _, _, .bl b => .bl b
  | _, _, .int i => .int i
  | _, _, .str x => .str x
  | _, _, .lst h r => .lst (same_l e h) (DpAll.mono e r)
  | _, _, .tup h r => .tup (same_t e h) (DpAll.mono e r)
theorem DpAll.mono {H' : Hp} (e : Same H H') : ∀ {vs : List V} {ds : List PyData}, DpAll K H vs ds → DpAll K H' vs ds
  | _, _, .nil => .nil
  | _, _, .cons h r => .cons (Dp.mono e h) (DpAll.mono e r)
end
end
/-- fit for == -/
def fit (d : D) : Bool := plain d && SeqAt.shaped (dpy d)
def eqD (d e : D) : Bool := PyData.eqv (dpy d) (dpy e)
theorem fit_p {d : D} (h : fit d = true) : plain d = true := (Bool.and_eq_true_iff.mp h).1
theorem fit_s {d : D} (h : fit d = true) : SeqAt.shaped (dpy d) = true := (Bool.and_eq_true_iff.mp h).2
section
variable {K : PySem.W.Frag} {Φ : D → Prop}
theorem r2_eqD {d e : D} (hd : fit d = true) (he : fit e = true) (k : Φ (.bl (eqD d e))) : R2D K (rEqD K) d e Φ := fun O H x y Q rx ry _ q =>
  ⟨dpy d, dpy e, Dp.mono same_hid (rx.dp (fit_p hd)), Dp.mono same_hid (ry.dp (fit_p he)), fit_s hd, fit_s he, q _ _ H (Same.refl _) (.bl _) k⟩
theorem r2_neD {d e : D} (hd : fit d = true) (he : fit e = true) (k : Φ (.bl (!eqD d e))) : R2D K (rNeD K) d e Φ := fun O H x y Q rx ry _ q =>
  ⟨dpy d, dpy e, Dp.mono same_hid (rx.dp (fit_p hd)), Dp.mono same_hid (ry.dp (fit_p he)), fit_s hd, fit_s he, q _ _ H (Same.refl _) (.bl _) k⟩
end
/-- in, over a list or a tuple of data -/
def rInS (K : PySem.W.Frag) (neg : Bool) : R2 := fun x y H Q => ∃ d ds, Dp K H x d ∧ (Dp K H y (.list ds) ∨ Dp K H y (.tuple ds)) ∧ SeqAt.shaped d = true ∧ SeqAt.shaped (.list ds) = true ∧ Q (.bl (if neg then !ds.any fun z => PyData.eqv z d else ds.any fun z => PyData.eqv z d)) H
theorem op_inSeq {X : Cx} (hu : X.A.units + 65 < cLine) : OpR X (compareOp .In) (rInS X.K false) := by
  intro pins s σ H x y v u Q I rx ry h
  obtain ⟨d, ds, hd, he | he, sd, se, q⟩ := h
  · obtain ⟨as, r1⟩ := Dp.reads I d x v hd rx
    obtain ⟨bs, r2⟩ := Dp.reads I (.list ds) y u he ry
    exact SeqAt.in_list_reads r2 r1 (SeqAt.canLay_of_shaped se) (SeqAt.canLay_of_shaped sd) (PyProof.Rows.room_in_shaped sd hu) ⟨.bl _, H, I, rfl, q⟩
  · obtain ⟨as, r1⟩ := Dp.reads I d x v hd rx
    obtain ⟨bs, r2⟩ := Dp.reads I (.tuple ds) y u he ry
    exact SeqAt.in_tuple_reads r2 r1 (SeqAt.canLay_of_shaped se) (SeqAt.canLay_of_shaped sd) (PyProof.Rows.room_in_shaped sd hu) ⟨.bl _, H, I, rfl, q⟩
theorem op_notInSeq {X : Cx} (hu : X.A.units + 65 < cLine) : OpR X (compareOp .NotIn) (rInS X.K true) := by
  intro pins s σ H x y v u Q I rx ry h
  obtain ⟨d, ds, hd, he | he, sd, se, q⟩ := h
  · obtain ⟨as, r1⟩ := Dp.reads I d x v hd rx
    obtain ⟨bs, r2⟩ := Dp.reads I (.list ds) y u he ry
    exact SeqAt.notIn_list_reads r2 r1 (SeqAt.canLay_of_shaped se) (SeqAt.canLay_of_shaped sd) (PyProof.Rows.room_in_shaped sd hu) ⟨.bl _, H, I, rfl, q⟩
  · obtain ⟨as, r1⟩ := Dp.reads I d x v hd rx
    obtain ⟨bs, r2⟩ := Dp.reads I (.tuple ds) y u he ry
    exact SeqAt.notIn_tuple_reads r2 r1 (SeqAt.canLay_of_shaped se) (SeqAt.canLay_of_shaped sd) (PyProof.Rows.room_in_shaped sd hu) ⟨.bl _, H, I, rfl, q⟩
def inD (d : D) (ds : List D) : Bool := ds.any fun z => eqD z d
theorem inD_py (d : D) (ds : List D) : ((dpyAll ds).any fun z => PyData.eqv z (dpy d)) = inD d ds := by
  rw [dpyAll_map, List.any_map]; rfl
theorem r2_in {K : PySem.W.Frag} {Φ : D → Prop} {d e : D} {ds : List D} (hs : seqD e = some ds) (hd : fit d = true) (he : fit (.lst ds) = true) (k : Φ (.bl (inD d ds))) : R2D K (rInS K false) d e Φ := fun O H x y Q rx ry _ q => by
  have z : PyData.list (dpyAll ds) = dpy (.lst ds) := rfl
  refine ⟨dpy d, dpyAll ds, Dp.mono same_hid (rx.dp (fit_p hd)), ?_, fit_s hd, fit_s he, ?_⟩
  · cases ry with
    | lst h r => cases hs; exact .inl (Dp.mono same_hid (.lst (.inl h) (r.dp (fit_p he))))
    | tup h r => cases hs; exact .inr (Dp.mono same_hid (.tup h (r.dp (fit_p he))))
    | _ => cases hs
  · show Q (.bl (if false = true then _ else ((dpyAll ds).any fun z => PyData.eqv z (dpy d)))) H
    rw [if_neg Bool.false_ne_true, inD_py]
    exact q _ _ H (Same.refl _) (.bl _) k
theorem r2_notIn {K : PySem.W.Frag} {Φ : D → Prop} {d e : D} {ds : List D} (hs : seqD e = some ds) (hd : fit d = true) (he : fit (.lst ds) = true) (k : Φ (.bl (!inD d ds))) : R2D K (rInS K true) d e Φ := fun O H x y Q rx ry _ q => by
  refine ⟨dpy d, dpyAll ds, Dp.mono same_hid (rx.dp (fit_p hd)), ?_, fit_s hd, fit_s he, ?_⟩
  · cases ry with
    | lst h r => cases hs; exact .inl (Dp.mono same_hid (.lst (.inl h) (r.dp (fit_p he))))
    | tup h r => cases hs; exact .inr (Dp.mono same_hid (.tup h (r.dp (fit_p he))))
    | _ => cases hs
  · show Q (.bl (if true = true then !((dpyAll ds).any fun z => PyData.eqv z (dpy d)) else _)) H
    rw [if_pos rfl, inD_py]
    exact q _ _ H (Same.refl _) (.bl _) k

/-! ### subscripts, slices -/
def ixD : D → Int → Option D
  | .lst xs, i => atI xs i
  | .tup xs, i => atI xs i
  | .str z, i => if z.length ≤ sizeLine then (atI z.cps.toList i).map fun c => .str ⟨#[c]⟩ else none
  | _, _ => none
theorem atI_rp {K : PySem.W.Frag} {H : Hp} {vs : List V} {ds : List D} {i : Int} {d : D} (r : RpAll K H vs ds) (h : atI ds i = some d) : ∃ v, atI vs i = some v ∧ Rp K H v d := by
  unfold atI at h ⊢
  rw [r.length]
  cases e : ixN ds.length i with
  | none => rw [e] at h; cases h
  | some j =>
    rw [e] at h
    exact r.get' h
theorem r2_ix {K : PySem.W.Frag} {Φ : D → Prop} {d f : D} {i : Int} (h : ixD d i = some f) (k : Φ f) : R2D K (rIx K) d (.int i) Φ := fun O H x y Q rx ry _ q => by
  cases ry
  cases rx with
  | lst hs r =>
    obtain ⟨v, h1, h2⟩ := atI_rp r h
    exact .inl ⟨_, _, i, v, rfl, rfl, .inl (same_rd same_hid hs), h1, q v f H (Same.refl _) h2 k⟩
  | tup hs r =>
    obtain ⟨v, h1, h2⟩ := atI_rp r h
    exact .inr (.inl ⟨_, _, i, v, rfl, rfl, same_t same_hid hs, h1, q v f H (Same.refl _) h2 k⟩)
  | str z =>
    have h' : (if z.length ≤ sizeLine then (atI z.cps.toList i).map fun c => D.str ⟨#[c]⟩ else none) = some f := h
    by_cases hz : z.length ≤ sizeLine
    · rw [if_pos hz] at h'
      cases e : atI z.cps.toList i with
      | none => rw [e] at h'; cases h'
      | some c =>
        rw [e] at h'
        refine .inr (.inr ⟨z, i, c, rfl, rfl, hz, e, q _ f H (Same.refl _) ?_ k⟩)
        rw [← Option.some.inj h']
        exact .str _
    · rw [if_neg hz] at h'; cases h'
  | _ => cases h
theorem ixD_nat {xs : List D} {j : Nat} {d : D} (h : xs[j]? = some d) : ixD (.lst xs) (j : Int) = some d := atI_nat h
theorem ixD_natT {xs : List D} {j : Nat} {d : D} (h : xs[j]? = some d) : ixD (.tup xs) (j : Int) = some d := atI_nat h
section
variable {c : Ctx} {ρ : List SD} {n : Nat} {ta tb te : TE} {t u : TT} {as : TA} {Φ : Nat → D → Prop} {Ψ : Out} {ts us : TS}
theorem wo_none {Φ : Nat → Option Int → Prop} (k : Φ n none) : WO c tNoPart ρ n Φ := fun P L σ H Q E q => q none n H (Same.refl _) E.bag k
theorem wo_some {Φ : Nat → Option Int → Prop} (h : WE c te ρ n fun n1 d => ∃ i, d = .int i ∧ Φ n1 (some i)) : WO c (tPart te) ρ n Φ := fun P L σ H Q E q => by
  refine h P L σ H _ E fun x d n1 H1 s1 j1 r1 ⟨i, e, k⟩ => ?_
  subst e
  cases r1
  exact ⟨i, rfl, q (some i) n1 H1 s1 j1 k⟩
def rSlS3 (K : PySem.W.Frag) : V → Option Int → Option Int → Hp → VK → Prop := fun x lo hi H Q => rSlL K x lo hi H Q ∨ rSlA K x lo hi H Q ∨ rSlS x lo hi H Q
theorem sl_seq {X : Cx} : SlR X (rSlS3 X.K) := by
  intro pins s σ H x v vl vu lo hi sl Q I rx hs pl pu h
  rcases h with h | h | h
  · exact sl_list pins s σ H x v vl vu lo hi sl Q I rx hs pl pu h
  · exact sl_tupA pins s σ H x v vl vu lo hi sl Q I rx hs pl pu h
  · exact sl_str pins s σ H x v vl vu lo hi sl Q I rx hs pl pu h
def cutD (xs : List D) (lo hi : Option Int) : List D := (xs.drop (HT.sIx xs.length 0 lo)).take (HT.sIx xs.length xs.length hi - HT.sIx xs.length 0 lo)
def slD (d : D) (lo hi : Option Int) : Option D := match d with
  | .lst xs => some (.lst (cutD xs lo hi))
  | .tup xs => some (.tup (cutD xs lo hi))
  | .str z => if z.length ≤ sizeLine then some (.str (cutS z lo hi)) else none
  | _ => none
theorem RpAll.cut {K : PySem.W.Frag} {H : Hp} {vs : List V} {ds : List D} (r : RpAll K H vs ds) (lo hi : Option Int) : RpAll K H (cutV vs lo hi) (cutD ds lo hi) := by
  unfold cutV cutD
  rw [r.length]
  exact (r.drop _).take _
theorem cutD_whole {xs : List D} {lo hi : Option Int} (h : HT.sIx xs.length 0 lo = 0 ∧ HT.sIx xs.length xs.length hi = xs.length) : cutD xs lo hi = xs := by
  unfold cutD
  rw [h.1, h.2]
  simp
theorem we_sl {tl th : TO} (h : WE c te ρ n fun n1 d => WO c tl ρ n1 fun n2 lo => WO c th ρ n2 fun n3 hi => ∃ f, slD d lo hi = some f ∧ Φ n3 f) : WE c (tSl (rSlS3 c.K) te tl th) ρ n Φ := fun P L σ H Q E q => by
  refine h P L σ H _ E fun x d n1 H1 s1 j1 r1 h1 => ?_
  have E1 := E.step s1 j1
  refine h1 P L σ H1 _ E1 fun lo n2 H2 s2 j2 h2 => ?_
  have E2 := E1.step s2 j2
  refine h2 P L σ H2 _ E2 fun hi n3 H3 s3 j3 ⟨f, e, k⟩ => ?_
  have E3 := E2.step s3 j3
  have r3 := (r1.mono (E1.sameLO s2)).mono (E2.sameLO s3)
  have s := (s1.trans s2).trans s3
  cases r3 with
  | @lst a xs ds hs r =>
    cases e
    refine .inl ⟨_, _, rfl, .inl (same_rd same_hid hs), fun p hp => ?_⟩
    have z := E3.newT (o := .lst (cutV xs lo hi)) hp
    exact q _ _ n3 _ (s.trans z.1) z.2.1 (.lst (.inl (hid_at z.2.2)) ((r.cut lo hi).mono (rp_upd (K := c.K) hp))) k
  | @tup a xs ds hs r =>
    cases e
    refine .inr (.inl ⟨_, _, rfl, same_t same_hid hs, fun hw => ?_, fun hw p hp => ?_⟩)
    · rw [r.length] at hw
      rw [cutD_whole hw] at k
      exact q _ _ n3 _ s j3 (.tup hs r) k
    · have z := E3.newT (o := .tup (cutV xs lo hi)) hp
      exact q _ _ n3 _ (s.trans z.1) z.2.1 (.tup (.inl (.inl (hid_at z.2.2))) ((r.cut lo hi).mono (rp_upd (K := c.K) hp))) k
  | str z =>
    have e' : (if z.length ≤ sizeLine then some (D.str (cutS z lo hi)) else none) = some f := e
    by_cases hz : z.length ≤ sizeLine
    · rw [if_pos hz] at e'
      cases e'
      exact .inr (.inr ⟨z, rfl, hz, q _ _ n3 _ s j3 (.str _) k⟩)
    · rw [if_neg hz] at e'; cases e'
  | _ => cases e
end

/-! ### + -/
section
variable {X : Cx}
theorem inv_rdL {pins : List (Addr × Obj)} {σ : St} {H : Hp} {s : Shared} {a : Addr} {xs : List V} (I : Inv X pins σ H s) (h : Rd H a (.lst xs)) : ∃ (its : List Value) (n : Nat), Vals xs its ∧ s.heap.get? a = some { cls := .type "list", data := .seq its.toArray n } ∧ xs.length ≤ sizeLine := by
  obtain ⟨z, its, n, r, e⟩ := h.ok I.hok
  exact ⟨its, n, r, e, z⟩
/-- list + list, whatever is read -/
def rCatL : R2 := fun x y H Q => ∃ l b xs zs, x = .ref l ∧ y = .ref b ∧ Rd H l (.lst xs) ∧ Rd H b (.lst zs) ∧ xs.length + zs.length ≤ sizeLine ∧ ∀ p, H p = none → Q (.ref p) (upd H p (.lst (xs ++ zs)))
theorem op_catL : OpR X (binaryOp .Add) rCatL := by
  intro pins s σ H x y v u Q I rx ry h
  obtain ⟨l, b, xs, zs, rfl, rfl, hH, hB, hz, q⟩ := h
  cases rx
  cases ry
  obtain ⟨its, n, r, e, z⟩ := inv_rdL I hH
  obtain ⟨its2, n2, r2, e2, z2⟩ := inv_rdL I hB
  have h1 := r.length
  have h2 := r2.length
  refine PySem.P.add_list e e2 ?_ (by rw [List.size_toArray, List.size_toArray]; omega)
  have ea : its.toArray ++ its2.toArray = (its ++ its2).toArray := by simp
  rw [ea]
  exact ⟨.ref _, _, I.lnew (t' := s.toks) (r.append r2) (by rw [List.length_append]; omega), rfl, q _ I.fresh⟩
def rAddD (K : PySem.W.Frag) : R2 := fun x y H Q => rI0 (fun i j => .int (i + j)) x y H Q ∨ (∃ i j, x = .str i ∧ y = .str j ∧ i.length + j.length ≤ sizeLine ∧ Q (.str (i ++ j)) H) ∨ rCatA K x y H Q ∨ rCatL x y H Q
theorem op_addD : OpR X (binaryOp .Add) (rAddD X.K) := op_add.or (op_add_str.or (op_catA.or op_catL))
end
def addD : D → D → Option D
  | .int i, .int j => some (.int (i + j))
  | .str s, .str t => if s.length + t.length ≤ sizeLine then some (.str (s ++ t)) else none
  | .lst a, .lst b => if a.length + b.length ≤ sizeLine then some (.lst (a ++ b)) else none
  | .tup a, .tup b => if a.length + b.length ≤ sizeLine then some (.tup (a ++ b)) else none
  | _, _ => none
theorem r2_add {K : PySem.W.Frag} {Φ : D → Prop} {d e f : D} (h : addD d e = some f) (k : Φ f) : R2D K (rAddD K) d e Φ := fun O H x y Q rx ry no q => by
  cases rx with
  | int i =>
    cases ry with
    | int j => cases h; exact .inl ⟨i, j, rfl, rfl, q _ _ H (Same.refl _) (.int _) k⟩
    | _ => cases h
  | str i =>
    cases ry with
    | str j =>
      have h' : (if i.length + j.length ≤ sizeLine then some (D.str (i ++ j)) else none) = some f := h
      by_cases hz : i.length + j.length ≤ sizeLine
      · rw [if_pos hz] at h'
        cases h'
        exact .inr (.inl ⟨i, j, rfl, rfl, hz, q _ _ H (Same.refl _) (.str _) k⟩)
      · rw [if_neg hz] at h'; cases h'
    | _ => cases h
  | @lst a xs ds hs r =>
    cases ry with
    | @lst b ys es hs2 r2 =>
      have h' : (if ds.length + es.length ≤ sizeLine then some (D.lst (ds ++ es)) else none) = some f := h
      by_cases hz : ds.length + es.length ≤ sizeLine
      · rw [if_pos hz] at h'
        cases h'
        refine .inr (.inr (.inr ⟨a, b, xs, ys, rfl, rfl, same_rd same_hid hs, same_rd same_hid hs2, by rw [r.length, r2.length]; exact hz, fun p hp => ?_⟩))
        exact q _ _ _ (same_upd_new hp) (.lst (.inl (hid_at (no p hp))) ((r.append r2).mono (rp_upd (K := K) hp))) k
      · rw [if_neg hz] at h'; cases h'
    | _ => cases h
  | @tup a xs ds hs r =>
    cases ry with
    | @tup b ys es hs2 r2 =>
      have h' : (if ds.length + es.length ≤ sizeLine then some (D.tup (ds ++ es)) else none) = some f := h
      by_cases hz : ds.length + es.length ≤ sizeLine
      · rw [if_pos hz] at h'
        cases h'
        refine .inr (.inr (.inl ⟨a, b, xs, ys, rfl, rfl, same_t same_hid hs, same_t same_hid hs2, by rw [r.length, r2.length]; exact hz, fun e => ?_, fun e1 e2 => ?_, fun _ _ p hp => ?_⟩))
        · subst e
          cases r
          exact q _ _ H (Same.refl _) (.tup hs2 r2) k
        · subst e2
          cases r2
          rw [List.append_nil] at k
          exact q _ _ H (Same.refl _) (.tup hs r) k
        · exact q _ _ _ (same_upd_new hp) (.tup (.inl (.inl (hid_at (no p hp)))) ((r.append r2).mono (rp_upd (K := K) hp))) k
      · rw [if_neg hz] at h'; cases h'
    | _ => cases h
  | _ => cases h
end L3
/-! L3e: calls of built-ins over data; a def's promise over data. -/
namespace L3
open PySem L2

/-! ### len, list, tuple, int, abs -/
section
variable {X : Cx}
def rLenD (K : PySem.W.Frag) : List V → Hp → VK → Prop := fun xs H Q => (∃ p ys, xs = [.ref p] ∧ (SqL K H p ys ∨ SqT K H p ys) ∧ Q (.int ys.length) H) ∨ ∃ z, xs = [.str z] ∧ z.length ≤ sizeLine ∧ Q (.int z.length) H
theorem call_lenX : CallR X (.builtin "len") (rLenD X.K) := call_len_seq.or call_len_str
def rListD (K : PySem.W.Frag) : List V → Hp → VK → Prop := fun xs H Q => ∃ p ys, xs = [.ref p] ∧ (SqL K H p ys ∨ SqT K H p ys) ∧ ∀ l, H l = none → Q (.ref l) (upd H l (.lst ys))
theorem call_listX : CallR X (.type "list") (rListD X.K) := call_list_of
def rTupD (K : PySem.W.Frag) : List V → Hp → VK → Prop := fun xs H Q => ∃ p ys, xs = [.ref p] ∧ ((SqL K H p ys ∧ ∀ l, H l = none → Q (.ref l) (upd H l (.tup ys))) ∨ (SqT K H p ys ∧ Q (.ref p) H))
theorem call_tupX : CallR X (.type "tuple") (rTupD X.K) := call_tuple_of
def rIntD : List V → Hp → VK → Prop := fun xs H Q => (∃ i, xs = [.int i] ∧ Q (.int i) H) ∨ ∃ k, xs = [.bl k] ∧ Q (.int (if k then 1 else 0)) H
theorem call_intX : CallR X (.type "int") rIntD := call_int1
def rAbsD : List V → Hp → VK → Prop := fun xs H Q => ∃ i, xs = [.int i] ∧ Q (.int (if i < 0 then -i else i)) H
theorem call_absX : CallR X (.builtin "abs") rAbsD := call_abs
end
theorem RpAll.one {K : PySem.W.Frag} {H : Hp} {vs : List V} {d : D} (r : RpAll K H vs [d]) : ∃ v, vs = [v] ∧ Rp K H v d := by
  cases r with
  | cons h t => cases t; exact ⟨_, rfl, h⟩
theorem RpAll.two {K : PySem.W.Frag} {H : Hp} {vs : List V} {d e : D} (r : RpAll K H vs [d, e]) : ∃ v u, vs = [v, u] ∧ Rp K H v d ∧ Rp K H u e := by
  cases r with
  | cons h t =>
    obtain ⟨u, e, h2⟩ := t.one
    exact ⟨_, u, by rw [e], h, h2⟩
section
variable {K : PySem.W.Frag} {Φ : D → Prop}
def lenD : D → Option Int
  | .lst xs => some xs.length
  | .tup xs => some xs.length
  | .str z => if z.length ≤ sizeLine then some z.length else none
  | _ => none
theorem rc_len {d : D} {m : Int} (h : lenD d = some m) (k : Φ (.int m)) : RCD K (rLenD K) [d] Φ := fun O H xs Q rs no q => by
  obtain ⟨v, rfl, r⟩ := rs.one
  cases r with
  | @lst a ys ds hs ha =>
    refine .inl ⟨a, ys, rfl, .inl (.inl (same_rd same_hid hs)), q _ _ H (Same.refl _) (.int _) ?_⟩
    rw [ha.length, Option.some.inj (show some ((ds.length : Nat) : Int) = some m from h)]
    exact k
  | @tup a ys ds hs ha =>
    refine .inl ⟨a, ys, rfl, .inr (same_t same_hid hs), q _ _ H (Same.refl _) (.int _) ?_⟩
    rw [ha.length, Option.some.inj (show some ((ds.length : Nat) : Int) = some m from h)]
    exact k
  | str z =>
    have h' : (if z.length ≤ sizeLine then some ((z.length : Nat) : Int) else none) = some m := h
    by_cases hz : z.length ≤ sizeLine
    · rw [if_pos hz] at h'
      refine .inr ⟨z, rfl, hz, q _ _ H (Same.refl _) (.int _) ?_⟩
      rw [Option.some.inj h']
      exact k
    · rw [if_neg hz] at h'; cases h'
  | _ => cases h
theorem rc_list {d : D} {ds : List D} (h : seqD d = some ds) (k : Φ (.lst ds)) : RCD K (rListD K) [d] Φ := fun O H xs Q rs no q => by
  obtain ⟨v, rfl, r⟩ := rs.one
  cases r with
  | @lst a ys ds hs ha =>
    cases h
    exact ⟨a, ys, rfl, .inl (.inl (same_rd same_hid hs)), fun l hl => q _ _ _ (same_upd_new hl) (.lst (.inl (hid_at (no l hl))) (ha.mono (rp_upd (K := K) hl))) k⟩
  | @tup a ys ds hs ha =>
    cases h
    exact ⟨a, ys, rfl, .inr (same_t same_hid hs), fun l hl => q _ _ _ (same_upd_new hl) (.lst (.inl (hid_at (no l hl))) (ha.mono (rp_upd (K := K) hl))) k⟩
  | _ => cases h
theorem rc_tup {d : D} {ds : List D} (h : seqD d = some ds) (k : Φ (.tup ds)) : RCD K (rTupD K) [d] Φ := fun O H xs Q rs no q => by
  obtain ⟨v, rfl, r⟩ := rs.one
  cases r with
  | @lst a ys ds hs ha =>
    cases h
    exact ⟨a, ys, rfl, .inl ⟨.inl (same_rd same_hid hs), fun l hl => q _ _ _ (same_upd_new hl) (.tup (.inl (.inl (hid_at (no l hl)))) (ha.mono (rp_upd (K := K) hl))) k⟩⟩
  | @tup a ys ds hs ha =>
    cases h
    exact ⟨a, ys, rfl, .inr ⟨same_t same_hid hs, q _ _ H (Same.refl _) (.tup hs ha) k⟩⟩
  | _ => cases h
theorem rc_int {i : Int} (k : Φ (.int i)) : RCD K rIntD [.int i] Φ := fun O H xs Q rs no q => by
  obtain ⟨v, rfl, r⟩ := rs.one
  cases r
  exact .inl ⟨i, rfl, q _ _ H (Same.refl _) (.int _) k⟩
theorem rc_intB {b : Bool} (k : Φ (.int (if b then 1 else 0))) : RCD K rIntD [.bl b] Φ := fun O H xs Q rs no q => by
  obtain ⟨v, rfl, r⟩ := rs.one
  cases r
  exact .inr ⟨b, rfl, q _ _ H (Same.refl _) (.int _) k⟩
theorem rc_abs {i : Int} (k : Φ (.int (if i < 0 then -i else i))) : RCD K rAbsD [.int i] Φ := fun O H xs Q rs no q => by
  obtain ⟨v, rfl, r⟩ := rs.one
  cases r
  exact ⟨i, rfl, q _ _ H (Same.refl _) (.int _) k⟩
/-- sum, max, min of a list of ints; any, all of a list of truths -/
theorem rc_sum {ns : List Int} (k : Φ (.int ns.sum)) : RCD K (rSum K) [.lst (ns.map D.int)] Φ := fun O H xs Q rs no q => by
  obtain ⟨v, rfl, r⟩ := rs.one
  cases r with
  | @lst a ys ds hs ha =>
    have e := ha.ints
    subst e
    exact ⟨a, ns, rfl, .inl (same_rd same_hid hs), q _ _ H (Same.refl _) (.int _) k⟩
theorem rc_max {ns : List Int} (hn : 0 < ns.length) (k : ∀ m, m ∈ ns → (∀ y ∈ ns, y ≤ m) → Φ (.int m)) : RCD K (rMax K) [.lst (ns.map D.int)] Φ := fun O H xs Q rs no q => by
  obtain ⟨v, rfl, r⟩ := rs.one
  cases r with
  | @lst a ys ds hs ha =>
    have e := ha.ints
    subst e
    exact ⟨a, ns, rfl, .inl (same_rd same_hid hs), hn, fun m h1 h2 => q _ _ H (Same.refl _) (.int _) (k m h1 h2)⟩
theorem rc_min {ns : List Int} (hn : 0 < ns.length) (k : ∀ m, m ∈ ns → (∀ y ∈ ns, m ≤ y) → Φ (.int m)) : RCD K (rMin K) [.lst (ns.map D.int)] Φ := fun O H xs Q rs no q => by
  obtain ⟨v, rfl, r⟩ := rs.one
  cases r with
  | @lst a ys ds hs ha =>
    have e := ha.ints
    subst e
    exact ⟨a, ns, rfl, .inl (same_rd same_hid hs), hn, fun m h1 h2 => q _ _ H (Same.refl _) (.int _) (k m h1 h2)⟩
theorem RpAll.bls {H : Hp} : ∀ {vs : List V} {bs : List Bool}, RpAll K H vs (bs.map D.bl) → vs = bs.map V.bl
  | _, [], h => by cases h; rfl
  | _, n :: ns, h => by
    cases h with
    | cons h r => cases h; rw [RpAll.bls r]; rfl
theorem rc_any {bs : List Bool} (k : Φ (.bl (bs.any id))) : RCD K (rAny K) [.lst (bs.map D.bl)] Φ := fun O H xs Q rs no q => by
  obtain ⟨v, rfl, r⟩ := rs.one
  cases r with
  | @lst a ys ds hs ha =>
    have e := ha.bls
    subst e
    exact ⟨a, bs, rfl, .inl (same_rd same_hid hs), q _ _ H (Same.refl _) (.bl _) k⟩
theorem rc_all {bs : List Bool} (k : Φ (.bl (bs.all id))) : RCD K (rAll K) [.lst (bs.map D.bl)] Φ := fun O H xs Q rs no q => by
  obtain ⟨v, rfl, r⟩ := rs.one
  cases r with
  | @lst a ys ds hs ha =>
    have e := ha.bls
    subst e
    exact ⟨a, bs, rfl, .inl (same_rd same_hid hs), q _ _ H (Same.refl _) (.bl _) k⟩

/-! ### isinstance with built-in types -/
def tyD : D → Option String
  | .non => some "NoneType"
  | .bl _ => some "bool"
  | .int _ => some "int"
  | .str _ => some "str"
  | .lst _ => some "list"
  | .tup _ => some "tuple"
  | _ => none
theorem tyD_X {H : Hp} {O : List Addr} {v : V} {d : D} {T : String} (r : Rp K (hid O H) v d) (h : tyD d = some T) : TyX K H v (.type T) := by
  cases r with
  | non => cases h; exact .base .non
  | bl b => cases h; exact .base (.bl b)
  | int i => cases h; exact .base (.int i)
  | str x => cases h; exact .base (.str x)
  | lst hs ha =>
    cases h
    rcases same_rd same_hid hs with e | ⟨o, e⟩
    · exact .base (.lst e)
    · exact .base (.frz e)
  | tup hs ha =>
    cases h
    rcases same_t same_hid hs with (e | ⟨o, e⟩) | ⟨o, its, n, hk, hc, _⟩
    · exact .base (.tup e)
    · exact .fTuple e
    · exact .kTuple hk hc
  | _ => cases h
theorem rc_isi {d : D} {T U : String} {b : Bool} (h : tyD d = some T) (hk : kitB T U = some b) (k : Φ (.bl b)) : RCD K (rIsi K) [d, .ty U] Φ := fun O H xs Q rs no q => by
  obtain ⟨v, u, rfl, r1, r2⟩ := rs.two
  cases r2
  exact ⟨v, .ty U, .type T, .type U, b, rfl, .ty U, tyD_X r1 h, kit_ty hk, q _ _ H (Same.refl _) (.bl _) k⟩
end

/-! ### sorted of data -/
section
variable {X : Cx}
abbrev LeD : D → D → Bool := PySem.W.dataLe false dpy
def sortD (ds : List D) : List D := ds.mergeSort LeD
def rSortD (K : PySem.W.Frag) : List V → Hp → VK → Prop := fun vs H Q => ∃ (O : List Addr) (v : V) (ds : List D), vs = [v] ∧ Rp K (hid O H) v (.lst ds) ∧ plainAll ds = true ∧ PySem.W.AllAlike (ds.map dpy) ∧ PySem.W.Sortable (ds.map dpy) ∧ ds.length ≤ sizeLine ∧
  (∀ d ∈ ds, (dpy d).depth ≤ 50) ∧ ∀ l ys, H l = none → RpAll K (hid O H) ys (sortD ds) → Q (.ref l) (upd H l (.lst ys))
theorem plainAll_mem : ∀ {ds : List D} {d : D}, plainAll ds = true → d ∈ ds → plain d = true
  | e :: ds, d, h, hd => by
    have h' : (plain e && plainAll ds) = true := h
    rw [Bool.and_eq_true] at h'
    rcases List.mem_cons.mp hd with q | q
    · rw [q]; exact h'.1
    · exact plainAll_mem h'.2 q
theorem each_rp {K : PySem.W.Frag} {H : Hp} : ∀ {vs : List V} {us : List Value} {ds : List D}, Vals vs us → RpAll K H vs ds → PySem.W.EachIs (fun (u : Value) (d : D) => ∃ v, RelV v u ∧ Rp K H v d) us ds
  | _, _, _, .nil, .nil => .nil
  | _, _, _, .cons r t, .cons h s => .cons ⟨_, r, h⟩ (each_rp t s)
theorem rp_each {K : PySem.W.Frag} {H : Hp} : ∀ {us : List Value} {ds : List D}, PySem.W.EachIs (fun (u : Value) (d : D) => ∃ v, RelV v u ∧ Rp K H v d) us ds → ∃ vs, Vals vs us ∧ RpAll K H vs ds
  | _, _, .nil => ⟨[], .nil, .nil⟩
  | _, _, .cons ⟨v, r, h⟩ t => by
    obtain ⟨vs, h1, h2⟩ := rp_each t
    exact ⟨v :: vs, .cons r h1, .cons h h2⟩
theorem cr_sortD (hu : X.A.units + 64 < cLine) : CallR X (.builtin "sorted") (rSortD X.K) := by
  intro pins s σ H vs us Q I r h
  obtain ⟨O, v, ds, rfl, rv, hp, hal, hk, hL, hdep, q⟩ := h
  cases rv with
  | @lst a xs _ hs ha =>
    rw [Vals.ref1 r]
    obtain ⟨its, n, rv, e, hz⟩ := inv_rdL I (same_rd same_hid hs)
    have el := each_rp rv ha
    have er : PySem.W.EachIs (fun (u : Value) (d : D) => ∃ as, Reads s.heap u (dpy d) as) its ds := by
      refine (PySem.W.each_mem el).mono ?_
      rintro u d ⟨⟨v, r1, r2⟩, hd⟩
      exact Dp.reads I (dpy d) v u (Dp.mono same_hid (r2.dp (plainAll_mem hp hd))) r1
    refine PySem.W.sorted_data (s := s) ⟨_, e, rfl, n, rfl⟩ el er hal hk hL (fun d hd => by have := hdep d hd; omega) fun out ho eo => ?_
    obtain ⟨ys, h1, h2⟩ := rp_each eo
    obtain ⟨ep, he'⟩ := PyProof.Rows.sortedAll_at s.heap its out.toArray
    have hlen : ys.length ≤ sizeLine := by rw [h1.length, ho]; exact hL
    exact ⟨.ref _, upd H (s.heap.objs.size + 1) (.lst ys), I.laid (t' := s.toks) (fun _ _ => PyProof.Rows.sortedAll_old) (Nat.le_succ _) ⟨hlen, out, ep, h1, he'⟩, rfl, q _ ys (I.hok.fresh (Nat.le_succ _)) h2⟩
end
theorem rc_sort {K : PySem.W.Frag} {Φ : D → Prop} {ds : List D} (hp : plainAll ds = true) (hal : PySem.W.AllAlike (ds.map dpy)) (hk : PySem.W.Sortable (ds.map dpy)) (hL : ds.length ≤ sizeLine) (hd : ∀ d ∈ ds, (dpy d).depth ≤ 50) (k : Φ (.lst (sortD ds))) : RCD K (rSortD K) [.lst ds] Φ := fun O H xs Q rs no q => by
  obtain ⟨v, rfl, r⟩ := rs.one
  exact ⟨O, v, ds, rfl, r, hp, hal, hk, hL, hd, fun l ys hl h => q _ _ _ (same_upd_new hl) (.lst (.inl (hid_at (no l hl))) (h.mono (rp_upd (K := K) hl))) k⟩
end L3
/-! L3f: a def's promise over data; methods of own lists. -/
namespace L3
open PySem L2

/-- the slots at a def's entry -/
def rho (N : List Str) (ds : List D) : List SD := ds.map SD.val ++ List.replicate (N.length - ds.length) .un
theorem slots_un {pr : Program} {wd : World} {K : PySem.W.Frag} {O : List Addr} {H : Hp} : ∀ m : Nat, Slots pr wd K O H (List.replicate m none) (List.replicate m .un) []
  | 0 => .nil
  | m + 1 => .un (slots_un m)
theorem slots_start {pr : Program} {wd : World} {K : PySem.W.Frag} {O : List Addr} {H : Hp} {m : Nat} : ∀ {vs : List V} {ds : List D}, RpAll K (hid O H) vs ds → Slots pr wd K O H (vs.map some ++ List.replicate m none) (ds.map SD.val ++ List.replicate m .un) []
  | _, _, .nil => slots_un m
  | _, _, .cons h r => .val h (slots_start r)
section
variable {P : Program} {w : World} {K : PySem.W.Frag} {mg : Str → Option Value} {base : Heap}
/-- THE RULE: a def by its body, over data -/
theorem fn_D {x qual : Str} {st : Stmt} {f : Addr} {fd : FuncData} {N ps : List Str} {k : Nat} {S : Spec} (F : Fun K x qual st f fd) (sc : FnScope N ps (defScope st))
    (len : ∀ bag n ds Φ, S bag n ds Φ → ds.length = ps.length)
    (body : ∀ (cdv : Value) (A : Around) (outer : List PySem.Env) (s : Shared) (H : Hp) (E : XK) (O : List Addr) (bag : Option (Addr × Addr)) (n : Nat) (ds : List D) (Φ : Nat → D → Prop), Room k (A.deeper (PyProof.Rows.envOfC qual (defScope st) s.heap.objs.size f cdv)) → S bag n ds Φ →
      ∃ t, PSs (cxOf CX0 P w K mg base N qual (defScope st) f cdv A outer s H E).nox (defBody st) t ∧ WS ⟨P, w, K, O, bag, H⟩ t (rho N ds) n { nx := fun n' _ => Φ n' .non, rt := Φ }) :
    FnOk P w K mg base CX0 (k + 1) f fd ps (spD K S) := by
  refine F.ok sc (fun vs H Q E h => ?_) (fun cdv A outer s H vs Q E hr h => ?_)
  · obtain ⟨O, bag, n, ds, Φ, _, _, r, hS, _⟩ := h
    rw [r.length]; exact len bag n ds Φ hS
  · obtain ⟨O, bag, n, ds, Φ, hb, hO, r, hS, q⟩ := h
    obtain ⟨t, ht, W⟩ := body cdv A outer s H E O bag n ds Φ hr hS
    refine ⟨t, ht, W (fun _ => none) [] _ H _ ?_ ?_⟩
    · have e : L2.start N vs = vs.map some ++ List.replicate (N.length - ds.length) none := by unfold L2.start; rw [r.length]
      exact { nd := List.nodup_nil, fresh := (fun l hl => nomatch hl), slots := ⟨[], by rw [e]; exact slots_start r, List.Sublist.refl _⟩, lst := (fun l hl => nomatch hl), bag := fun b q e => (hb b q e).1, base := Same.refl _,
              pers := (fun _ _ e => nomatch e), bO := fun b q e => (hb b q e).2, al := hO }
    · exact { nx := fun L n' H' σ ρ E k => q .non .non n' H' E.base (fun b q e => E.bag b q e) .non k,
              rt := fun v d n' H' s j r k => q v d n' H' s j r k, bk := fun _ _ _ _ _ _ k => k.elim, ct := fun _ _ _ _ _ _ k => k.elim }
end

/-! ### an own list's methods -/
section
variable {c : Ctx} {ρ : List SD} {n : Nat} {ta tb te : TE} {t u : TT} {as : TA} {Φ : Nat → D → Prop} {Ψ : Out} {ts us : TS}
/-- at an own slot the list is another one -/
theorem Slots.own_at {pr : Program} {wd : World} {K : PySem.W.Frag} {O : List Addr} {H : Hp} {ds es : List D} : ∀ {σ : List (Option V)} {ρ : List SD} {L : List Addr} {i : Nat}, Slots pr wd K O H σ ρ L → L.Nodup → ρ[i]? = some (.own ds) → ∃ l xs, σ[i]? = some (some (.ref l)) ∧ l ∈ L ∧ H l = some (.lst xs) ∧ RpAll K (hid O H) xs ds ∧
    ∀ (ys : List V), RpAll K (hid O H) ys es → hid O (upd H l (.lst ys)) = hid O H → Slots pr wd K O (upd H l (.lst ys)) σ (ρ.set i (.own es)) L
  | _, _, _, _, .nil, _, e => by simp at e
  | _, _, _, 0, .un _, _, e => by simp at e
  | _, _, _, i + 1, .un s, nd, e => by
    obtain ⟨l, xs, h1, h2, h3, h4, h5⟩ := Slots.own_at (i := i) s nd (by simpa using e)
    exact ⟨l, xs, by simpa using h1, h2, h3, h4, fun ys a b => .un (h5 ys a b)⟩
  | _, _, _, 0, .val _ _, _, e => by simp at e
  | _, _, _, i + 1, .val r s, nd, e => by
    obtain ⟨l, xs, h1, h2, h3, h4, h5⟩ := Slots.own_at (i := i) s nd (by simpa using e)
    exact ⟨l, xs, by simpa using h1, h2, h3, h4, fun ys a b => .val (by rw [b]; exact r) (h5 ys a b)⟩
  | _, _, _, 0, .own h r s, nd, e => by
    simp at e
    subst e
    exact ⟨_, _, rfl, List.mem_cons_self, h, r, fun ys a b => .own upd_same (by rw [b]; exact a) (s.move (fun l hl => upd_ne fun e => (List.nodup_cons.mp nd).1 (by rw [← e]; exact hl)) (by rw [b]; exact Same.refl _))⟩
  | _, _, _, 0, .dic _ _, _, e => by simp at e
  | _, _, _, 0, .dk _ _, _, e => by simp at e
  | _, _, _, 0, .tw _ _, _, e => by simp at e
  | _, _, _, i + 1, .dic h s, nd, e => by
    obtain ⟨l, xs, h1, h2, h3, h4, h5⟩ := Slots.own_at (i := i) s (List.nodup_cons.mp nd).2 (by simpa using e)
    exact ⟨l, xs, by simpa using h1, List.mem_cons_of_mem _ h2, h3, h4, fun ys a b => .dic (h.move (upd_ne fun e => (List.nodup_cons.mp nd).1 (by rw [e]; exact h2)) (by rw [b]; exact Same.refl _)) (h5 ys a b)⟩
  | _, _, _, i + 1, .dk h s, nd, e => by
    obtain ⟨l, xs, h1, h2, h3, h4, h5⟩ := Slots.own_at (i := i) s (List.nodup_cons.mp nd).2 (by simpa using e)
    exact ⟨l, xs, by simpa using h1, List.mem_cons_of_mem _ h2, h3, h4, fun ys a b => .dk (h.move (upd_ne fun e => (List.nodup_cons.mp nd).1 (by rw [e]; exact h2)) (by rw [b]; exact Same.refl _)) (h5 ys a b)⟩
  | _, _, _, i + 1, .tw h s, nd, e => by
    obtain ⟨l, xs, h1, h2, h3, h4, h5⟩ := Slots.own_at (i := i) s (List.nodup_cons.mp nd).2 (by simpa using e)
    exact ⟨l, xs, by simpa using h1, List.mem_cons_of_mem _ h2, h3, h4, fun ys a b => .tw (h.move (upd_ne fun e => (List.nodup_cons.mp nd).1 (by rw [e]; exact h2)) (by rw [b]; exact Same.refl _)) (h5 ys a b)⟩
  | _, _, _, i + 1, .own h r s, nd, e => by
    obtain ⟨l, xs, h1, h2, h3, h4, h5⟩ := Slots.own_at (i := i) s (List.nodup_cons.mp nd).2 (by simpa using e)
    exact ⟨l, xs, by simpa using h1, List.mem_cons_of_mem _ h2, h3, h4, fun ys a b => .own ((upd_ne fun e => (List.nodup_cons.mp nd).1 (by rw [e]; exact h2)).trans h) (by rw [b]; exact r) (h5 ys a b)⟩
theorem Env.own_at {P : Hp} {L : List Addr} {n : Nat} {H : Hp} {σ : List (Option V)} {i : Nat} {ds : List D} (E : Env c P L n H σ ρ) (h : ρ[i]? = some (.own ds)) : ∃ l xs, σ[i]? = some (some (.ref l)) ∧ H l = some (.lst xs) ∧ RpAll c.K (hid (L ++ c.O) H) xs ds ∧
    ∀ (ys : List V) (es : List D), RpAll c.K (hid (L ++ c.O) H) ys es → Env c P L n (upd H l (.lst ys)) σ (ρ.set i (.own es)) ∧ Same (hid c.B c.H0) (hid c.B (upd H l (.lst ys))) := by
  obtain ⟨Ls, sl, sb⟩ := E.slots
  have nd := sb.nodup E.nd
  obtain ⟨l, xs, h1, h2, h3, h4, _⟩ := sl.own_at (es := ds) nd h
  have lL := sb.subset h2
  have hm : l ∈ L ++ c.O := List.mem_append_left _ lL
  have hO : l ∉ c.O := (E.fresh l lL).2
  refine ⟨l, xs, h1, h3, h4, fun ys es hy => ?_⟩
  have bs : Same (hid c.B c.H0) (hid c.B (upd H l (.lst ys))) := same_upd_old (E.fresh l lL).1 E.base
  refine ⟨?_, bs⟩
  obtain ⟨l', xs', g1, g2, g3, g4, g5⟩ := sl.own_at (es := es) nd h
  rw [h1] at g1
  cases g1
  exact { nd := E.nd, fresh := E.fresh, slots := ⟨Ls, g5 ys hy (hid_upd_in hm), sb⟩,
          lst := fun a ha => by
            by_cases e : a = l
            · exact ⟨_, by rw [e, upd_same]⟩
            · rw [upd_ne e]; exact E.lst a ha,
          bag := fun b q hb => (E.bag b q hb).move (fun o h => by rw [upd_ne fun e : b = l => hO (e ▸ (E.bO b q hb).1)]; exact h) fun o h => by rw [upd_ne fun e : q = l => hO (e ▸ (E.bO b q hb).2.1)]; exact h,
          base := bs, pers := by rw [hid_upd_in hm]; exact E.pers, bO := E.bO,
          al := fun o ho => by rw [upd_ne fun e : o = l => hO (e ▸ ho)]; exact E.al o ho }
/-- x.append(e) -/
theorem ws_append {i : Nat} {ds : List D} (h0 : ρ[i]? = some (.own ds)) (h : WE c te ρ n fun n1 d => ds.length < sizeLine ∧ Ψ.nx n1 (ρ.set i (.own (ds ++ [d])))) : WS c (tDrop (tBM c.K "list" rAppend (tVar i) (tCons te tNil))) ρ n Ψ := fun P L σ H Dn E A => by
  obtain ⟨l, xs, h1, h2, h3, h4⟩ := E.own_at h0
  refine ⟨.ref l, h1, .inl ⟨rfl, xs, .inl (.inl h2)⟩, ?_⟩
  refine h P L σ H _ E fun v d n1 H1 s1 j1 r1 ⟨hz, k⟩ => ?_
  have E1 := E.step s1 j1
  obtain ⟨l', ys, g1, g2, g3, g4⟩ := E1.own_at h0
  rw [h1] at g1
  cases g1
  refine ⟨l, ys, v, rfl, rfl, g2, by rw [g3.length]; exact hz, ?_⟩
  exact A.nx L n1 _ σ _ (g4 (ys ++ [v]) (ds ++ [d]) (g3.append (.cons r1 .nil))).1 k
end
end L3
/-! L3g: the operators one by one; loops with a state; short forms. -/
namespace L3
open PySem L2
section
variable {K : PySem.W.Frag} {Φ : D → Prop} {i j : Int}
theorem r2_lt (k : Φ (.bl (decide (i < j)))) : R2D K (rI0 fun i j => .bl (decide (i < j))) (.int i) (.int j) Φ := r2_int0 (h := fun i j => .bl (decide (i < j))) (fun _ _ _ => .bl _) k
theorem r2_le (k : Φ (.bl (decide (i ≤ j)))) : R2D K (rI0 fun i j => .bl (decide (i ≤ j))) (.int i) (.int j) Φ := r2_int0 (h := fun i j => .bl (decide (i ≤ j))) (fun _ _ _ => .bl _) k
theorem r2_gt (k : Φ (.bl (decide (j < i)))) : R2D K (rI0 fun i j => .bl (decide (j < i))) (.int i) (.int j) Φ := r2_int0 (h := fun i j => .bl (decide (j < i))) (fun _ _ _ => .bl _) k
theorem r2_ge (k : Φ (.bl (decide (j ≤ i)))) : R2D K (rI0 fun i j => .bl (decide (j ≤ i))) (.int i) (.int j) Φ := r2_int0 (h := fun i j => .bl (decide (j ≤ i))) (fun _ _ _ => .bl _) k
theorem r2_sub (k : Φ (.int (i - j))) : R2D K (rI0 fun i j => .int (i - j)) (.int i) (.int j) Φ := r2_int0 (h := fun i j => .int (i - j)) (fun _ _ _ => .int _) k
theorem r2_addI (k : Φ (.int (i + j))) : R2D K (rAddD K) (.int i) (.int j) Φ := r2_add rfl k
theorem r2_mulW (hc : CMulW i j) (k : Φ (.int (i * j))) : R2D K (rI CMulW fun i j => .int (i * j)) (.int i) (.int j) Φ := r2_int (h := fun i j => .int (i * j)) (fun _ _ _ => .int _) hc k
theorem r2_mul (hc : CMul i j) (k : Φ (.int (i * j))) : R2D K (rI CMul fun i j => .int (i * j)) (.int i) (.int j) Φ := r2_int (h := fun i j => .int (i * j)) (fun _ _ _ => .int _) hc k
theorem r2_mod (hc : 0 < j) (k : Φ (.int (i % j))) : R2D K (rI (fun _ j => 0 < j) fun i j => .int (i % j)) (.int i) (.int j) Φ := r2_int (h := fun i j => .int (i % j)) (fun _ _ _ => .int _) hc k
theorem r2_fdivW (hc : CDivW i j) (k : Φ (.int (i / j))) : R2D K (rI CDivW fun i j => .int (i / j)) (.int i) (.int j) Φ := r2_int (h := fun i j => .int (i / j)) (fun _ _ _ => .int _) hc k
theorem r2_fdiv (hc : CDiv i j) (k : Φ (.int (i / j))) : R2D K (rI CDiv fun i j => .int (i / j)) (.int i) (.int j) Φ := r2_int (h := fun i j => .int (i / j)) (fun _ _ _ => .int _) hc k
theorem r2_pow (hc : CPow i j) (k : Φ (.int (i ^ j.toNat))) : R2D K (rI CPow fun i j => .int (i ^ j.toNat)) (.int i) (.int j) Φ := r2_int (h := fun i j => .int (i ^ j.toNat)) (fun _ _ _ => .int _) hc k
theorem r2_cat {a b : List D} (h : a.length + b.length ≤ 16777216) (k : Φ (.lst (a ++ b))) : R2D K (rAddD K) (.lst a) (.lst b) Φ := r2_add (if_pos (by rw [sizeLine_eq]; exact h)) k
theorem r2_catT {a b : List D} (h : a.length + b.length ≤ 16777216) (k : Φ (.tup (a ++ b))) : R2D K (rAddD K) (.tup a) (.tup b) Φ := r2_add (if_pos (by rw [sizeLine_eq]; exact h)) k
theorem r2_catS {a b : Str} (h : a.length + b.length ≤ 16777216) (k : Φ (.str (a ++ b))) : R2D K (rAddD K) (.str a) (.str b) Φ := r2_add (if_pos (by rw [sizeLine_eq]; exact h)) k
theorem r2_isN {d : D} (k : Φ (.bl (isNon d))) : R2D K rIsN d .non Φ := fun O H x y Q rx ry _ q => by
  cases ry
  exact ⟨rfl, by rw [isNon_V rx]; exact q _ _ H (Same.refl _) (.bl _) k⟩
theorem r2_notN {d : D} (k : Φ (.bl (!isNon d))) : R2D K rNotN d .non Φ := fun O H x y Q rx ry _ q => by
  cases ry
  exact ⟨rfl, by rw [isNon_V rx]; exact q _ _ H (Same.refl _) (.bl _) k⟩
theorem r2_eqI (k : Φ (.bl (decide (i = j)))) : R2D K (rEqD K) (.int i) (.int j) Φ := r2_eqD rfl rfl (by
  have e : eqD (.int i) (.int j) = decide (i = j) := by
    show (i == j) = decide (i = j)
    by_cases h : i = j <;> simp [h]
  rw [e]; exact k)
theorem r2_neI (k : Φ (.bl (!decide (i = j)))) : R2D K (rNeD K) (.int i) (.int j) Φ := r2_neD rfl rfl (by
  have e : eqD (.int i) (.int j) = decide (i = j) := by
    show (i == j) = decide (i = j)
    by_cases h : i = j <;> simp [h]
  rw [e]; exact k)
end
section
variable {c : Ctx} {ρ : List SD} {n : Nat} {ta tb te : TE} {t u : TT} {as : TA} {Φ : Nat → D → Prop} {Ψ : Out} {ts us : TS}
theorem itT {b : Bool} {A B : Prop} (h : b = true) (k : A) : if b = true then A else B := by rw [if_pos h]; exact k
theorem itF {b : Bool} {A B : Prop} (h : b = false) (k : B) : if b = true then A else B := by rw [if_neg (by rw [h]; exact Bool.false_ne_true)]; exact k
/-- an item of a mapped list -/
theorem map_at {α β : Type} {f : α → β} {l : List α} {i : Nat} {d : β} (h : (l.map f)[i]? = some d) : ∃ a, l[i]? = some a ∧ d = f a ∧ a ∈ l ∧ l.take (i + 1) = l.take i ++ [a] := by
  rw [List.getElem?_map] at h
  cases e : l[i]? with
  | none => rw [e] at h; cases h
  | some a =>
    rw [e] at h
    exact ⟨a, rfl, (Option.some.inj h).symm, List.mem_of_getElem? e, by rw [List.take_succ, e]; rfl⟩
theorem decT {p : Prop} [Decidable p] {A B : Prop} (h : p) (k : A) : if decide p = true then A else B := by rw [if_pos (decide_eq_true h)]; exact k
theorem decF {p : Prop} [Decidable p] {A B : Prop} (h : ¬ p) (k : B) : if decide p = true then A else B := by rw [if_neg (by simpa using h)]; exact k
theorem dec2 {p : Prop} [Decidable p] {A B : Prop} (h1 : p → A) (h2 : ¬ p → B) : if decide p = true then A else B := by
  by_cases h : p
  · exact decT h (h1 h)
  · exact decF h (h2 h)
theorem decN {p : Prop} [Decidable p] {A B : Prop} (h1 : ¬ p → A) (h2 : p → B) : if (!decide p) = true then A else B := by
  by_cases h : p
  · rw [if_neg (by simpa using h)]; exact h2 h
  · rw [if_pos (by simpa using h)]; exact h1 h
theorem boo2 {b : Bool} {A B : Prop} (h1 : b = true → A) (h2 : b = false → B) : if b = true then A else B := by
  cases b
  · rw [if_neg Bool.false_ne_true]; exact h2 rfl
  · rw [if_pos rfl]; exact h1 rfl
theorem booN {b : Bool} {A B : Prop} (h1 : b = false → A) (h2 : b = true → B) : if (!b) = true then A else B := by
  cases b with
  | false => show (if true = true then A else B); rw [if_pos rfl]; exact h1 rfl
  | true => show (if false = true then A else B); rw [if_neg Bool.false_ne_true]; exact h2 rfl
theorem filt_all {α : Type} (l : List α) : l.filter (fun _ => true) = l := by simp
/-- a comprehension as map and filter: f the element, p the test, of data that the turn knows -/
theorem wf_map {wi : TI} {g : TG} {vs : List Nat} {Φ : Nat → List D → Prop} (f : D → D) (p : D → Bool)
    (h : WI c wi ρ n fun n1 ds => ds.length ≤ 1000000 ∧ (∀ d ∈ ds, ∀ m, WG c (RW vs) g d (wipeR ρ vs) m fun ρ2 => WT c t ρ2 m fun m2 b => m2 = m ∧ b = p d ∧ (b = true → WE c te ρ2 m fun m3 y => m3 = m ∧ y = f d)) ∧ Φ n1 ((ds.filter p).map f)) : WF c (tLc wi g t te vs) ρ n Φ := by
  refine wf_lc ?_
  intro P L σ H R E q
  refine h P L σ H R E fun J ds n' H' s j it ⟨hz, hs, kk⟩ => q J ds n' H' s j it ?_
  refine ⟨fun k m acc => m = n' ∧ acc = ((ds.take k).filter p).map f, ⟨rfl, rfl⟩, ?_, ?_⟩
  · rintro k m acc d hd ⟨e1, e2⟩
    subst e1; subst e2
    have hk : k < ds.length := (List.getElem?_eq_some_iff.mp hd).1
    have ek : ds[k] = d := (List.getElem?_eq_some_iff.mp hd).2
    have tk : ds.take (k + 1) = ds.take k ++ [d] := by rw [List.take_succ, hd]; rfl
    intro P2 L2 σ2 H2 v2 Q2 E2 r2 q2
    refine hs d (List.mem_of_getElem? hd) m P2 L2 σ2 H2 v2 Q2 E2 r2 fun σ3 ρ3 E3 hw hT => q2 σ3 ρ3 E3 hw ?_
    refine hT.mono fun m2 b ⟨e1, e2, he⟩ => ?_
    subst e1
    cases b with
    | true =>
      rw [if_pos rfl]
      refine (he rfl).mono fun m3 y ⟨e3, e4⟩ => ?_
      subst e3; subst e4
      refine ⟨?_, rfl, ?_⟩
      · have h1 : (List.map f (List.filter p (List.take k ds))).length ≤ ds.length := by
          rw [List.length_map]
          exact Nat.le_trans (List.length_filter_le _ _) (by rw [List.length_take]; omega)
        exact Nat.lt_of_le_of_lt (Nat.le_trans h1 hz) (by decide)
      · rw [tk, List.filter_append, List.map_append]
        simp [← e2]
    | false =>
      rw [if_neg Bool.false_ne_true]
      refine ⟨rfl, ?_⟩
      rw [tk, List.filter_append, List.map_append]
      simp [← e2]
  · rintro m acc ⟨e1, e2⟩
    subst e1; subst e2
    rw [List.take_length]
    exact kk
end
end L3
/-! L3h: the rules with the written part K said (within comprehensions it must not hang on the block). -/
namespace L3
open PySem L2
section
variable {X : Cx} (K : PySem.W.Frag)
theorem x_eq (hu : X.A.units + 64 < cLine) (hK : X.K = K := by rfl) : OpR X (compareOp .Eq) (rEqD K) := hK ▸ op_eqD hu
theorem x_ne (hu : X.A.units + 64 < cLine) (hK : X.K = K := by rfl) : OpR X (compareOp .NotEq) (rNeD K) := hK ▸ op_neD hu
theorem x_in (hu : X.A.units + 65 < cLine) (hK : X.K = K := by rfl) : OpR X (compareOp .In) (rInS K false) := hK ▸ op_inSeq hu
theorem x_notIn (hu : X.A.units + 65 < cLine) (hK : X.K = K := by rfl) : OpR X (compareOp .NotIn) (rInS K true) := hK ▸ op_notInSeq hu
theorem x_add (hK : X.K = K := by rfl) : OpR X (binaryOp .Add) (rAddD K) := hK ▸ op_addD
theorem x_ix (hK : X.K = K := by rfl) : IxR X (rIx K) := hK ▸ ix_seq
theorem x_sl (hK : X.K = K := by rfl) : SlR X (rSlS3 K) := hK ▸ sl_seq
theorem x_len (hK : X.K = K := by rfl) : CallR X (.builtin "len") (rLenD K) := hK ▸ call_lenX
theorem x_list (hK : X.K = K := by rfl) : CallR X (.type "list") (rListD K) := hK ▸ call_listX
theorem x_tup (hK : X.K = K := by rfl) : CallR X (.type "tuple") (rTupD K) := hK ▸ call_tupX
theorem x_sum (hc : X.calm = true := by rfl) (hK : X.K = K := by rfl) : CallR X (.builtin "sum") (rSum K) := hK ▸ cr_sum hc
theorem x_max (hc : X.calm = true := by rfl) (hK : X.K = K := by rfl) : CallR X (.builtin "max") (rMax K) := hK ▸ cr_max hc
theorem x_min (hc : X.calm = true := by rfl) (hK : X.K = K := by rfl) : CallR X (.builtin "min") (rMin K) := hK ▸ cr_min hc
theorem x_any (hc : X.calm = true := by rfl) (hK : X.K = K := by rfl) : CallR X (.builtin "any") (rAny K) := hK ▸ cr_any hc
theorem x_all (hc : X.calm = true := by rfl) (hK : X.K = K := by rfl) : CallR X (.builtin "all") (rAll K) := hK ▸ cr_all hc
theorem x_sorted (hu : X.A.units + 64 < cLine) (hK : X.K = K := by rfl) : CallR X (.builtin "sorted") (rSortD K) := hK ▸ cr_sortD hu
theorem x_isi (hK : X.K = K := by rfl) : CallR X (.builtin "isinstance") (rIsi K) := hK ▸ call_isi
theorem x_seq {tg l : Expr} {tl : TE} (hl : PE X l tl) (hK : X.K = K := by rfl) : PI X tg l (iSeq K tl) := hK ▸ pi_seq hl
theorem x_enum {e : Expr} {ta : TA} {p pos tpos : Pos} {elts : List Expr} {kk : Nat} (hg : Gl X "enumerate") (hm : X.mg "enumerate" = none) (ha : PA X [e] ta) (hs : starEach [e] X.env = [(false, eval e X.env)] := by rfl) (hK : X.K = K := by rfl) :
    PI X (.Tuple elts kk tpos) (.Call (.Name "enumerate" p) [e] [] pos) (iEnum K ta) := hK ▸ pi_enum hg hm ha hs
theorem x_tgt {m : Nat} {target : Expr} {t : TGs} (h : PG X target (gTup X.K m t)) (hK : X.K = K := by rfl) : PG X target (gTup K m t) := hK ▸ h
end
end L3
/-! L3i: own dicts whose keys are tuples. -/
namespace L3
open PySem L2
section
variable {X : Cx} {pins : List (Addr × Obj)} {σ : L2.St} {H : Hp} {s : Shared}
mutual
theorem nk_is (I : Inv X pins σ H s) {O : List Addr} : ∀ (d : D) (v : V) (u : Value), Rp X.K (hid O H) v d → RelV v u → nkOk d = true → NestedIs s.heap (nk d) u
  | .non, _, _, h, r, _ => by cases h; cases r; exact .none
  | .int i, _, _, h, r, _ => by cases h; obtain ⟨t, rfl⟩ := r; exact .int i t
  | .str x, _, _, h, r, _ => by cases h; obtain ⟨t, rfl⟩ := r; exact .text x t
  | .tup ds, _, _, h, r, k => by
    cases h with
    | tup hs ha =>
      cases r
      obtain ⟨its, rv, ⟨o, ho, hc, n, hd⟩, _⟩ := I.tuple (same_t same_hid hs)
      exact .tup ho hc hd (by rw [List.toList_toArray]; exact nk_all I ds _ its ha rv k)
  | .bl _, _, _, _, _, k => nomatch k
  | .lst _, _, _, _, _, k => nomatch k
  | .obj _ _, _, _, _, _, k => nomatch k
  | .adr _, _, _, _, _, k => nomatch k
  | .ty _, _, _, _, _, k => nomatch k
  | .dct _, _, _, _, _, k => nomatch k
  | .dcn _ _ _, _, _, _, _, k => nomatch k
theorem nk_all (I : Inv X pins σ H s) {O : List Addr} : ∀ (ds : List D) (vs : List V) (us : List Value), RpAll X.K (hid O H) vs ds → Vals vs us → nkOkAll ds = true → NestedAll s.heap (nkAll ds) us
  | [], _, _, h, r, _ => by cases h; cases r; exact .nil
  | d :: ds, _, _, h, r, k => by
    have h' : (nkOk d && nkOkAll ds) = true := k
    rw [Bool.and_eq_true] at h'
    cases h with
    | cons h1 h2 =>
      cases r with
      | cons r1 r2 => exact .cons (nk_is I d _ _ h1 r1 h'.1) (nk_all I ds _ _ h2 r2 h'.2)
end
theorem key_is (I : Inv X pins σ H s) {O : List Addr} {v : V} {d : D} {u : Value} (h : Rp X.K (hid O H) v d) (r : RelV v u) (k : keyD d = true) : ∃ a, v = .ref a ∧ u = .ref a ∧ (nestedKind X.prog X.w).is s.heap (nk d) a := by
  cases h with
  | @tup a xs ds hs ha =>
    have k' : (nkOkAll ds && decide ((nk (.tup ds)).depth ≤ 8)) = true := k
    rw [Bool.and_eq_true] at k'
    have q := nk_is I _ _ _ (.tup hs ha) r k'.1
    cases r
    exact ⟨a, rfl, rfl, q, of_decide_eq_true k'.2⟩
  | _ => cases k
end
def lookD (kvs : List (D × D)) (k : D) : Option D := (kvs.find? fun kv => decide (nk kv.1 = nk k)).map (·.2)
def putD (kvs : List (D × D)) (k v : D) : List (D × D) := if (lookD kvs k).isSome then kvs.map fun kv => if nk kv.1 = nk k then (kv.1, v) else kv else kvs ++ [(k, v)]
section
variable {K : PySem.W.Frag} {H : Hp}
theorem ent_look {kd : D} : ∀ {kvs : List (D × D)} {xs : List (NestedKey × Addr × Value)}, Paired (EntD K H) kvs xs →
    (lookD kvs kd = none ∧ atKey xs (nk kd) = none) ∨ ∃ v a u w, lookD kvs kd = some v ∧ atKey xs (nk kd) = some (a, u) ∧ RelV w u ∧ Rp K H w v
  | _, _, .nil => .inl ⟨rfl, rfl⟩
  | kv :: kvs, x :: xs, .cons h t => by
    obtain ⟨h1, h2, h3, w, h4, h5⟩ := h
    by_cases e : nk kv.1 = nk kd
    · right
      refine ⟨kv.2, x.2.1, x.2.2, w, ?_, ?_, h4, h5⟩
      · unfold lookD; rw [List.find?_cons_of_pos (by simpa using e)]; rfl
      · unfold atKey; rw [List.find?_cons_of_pos (by simpa [h2] using e)]; rfl
    · have r := ent_look (kd := kd) t
      have e1 : lookD (kv :: kvs) kd = lookD kvs kd := by unfold lookD; rw [List.find?_cons_of_neg (by simpa using e)]
      have e2 : atKey (x :: xs) (nk kd) = atKey xs (nk kd) := by unfold atKey; rw [List.find?_cons_of_neg (by simpa [h2] using e)]
      rw [e1, e2]; exact r
theorem ent_len : ∀ {kvs : List (D × D)} {xs : List (NestedKey × Addr × Value)}, Paired (EntD K H) kvs xs → kvs.length = xs.length
  | _, _, .nil => rfl
  | _, _, .cons _ t => by rw [List.length_cons, List.length_cons, ent_len t]
theorem ent_map {kd vd : D} {u : Value} {w : V} (r : RelV w u) (rw' : Rp K H w vd) : ∀ {kvs : List (D × D)} {xs : List (NestedKey × Addr × Value)}, Paired (EntD K H) kvs xs →
    Paired (EntD K H) (kvs.map fun kv => if nk kv.1 = nk kd then (kv.1, vd) else kv) (xs.map (putAt (nk kd) u))
  | _, _, .nil => .nil
  | kv :: kvs, x :: xs, .cons h t => by
    refine .cons ?_ (ent_map r rw' t)
    obtain ⟨h1, h2, h3, h4⟩ := h
    unfold putAt
    show EntD K H (if nk kv.1 = nk kd then (kv.1, vd) else kv) _
    by_cases e : nk kv.1 = nk kd
    · rw [if_pos e, if_pos (by rw [h2]; exact e)]
      exact ⟨h1, h2, h3, w, r, rw'⟩
    · rw [if_neg e, if_neg (by rw [h2]; exact e)]
      exact ⟨h1, h2, h3, h4⟩
theorem paired_app {α β : Type} {R : α → β → Prop} {a : α} {b : β} (h : R a b) : ∀ {xs : List α} {ys : List β}, Paired R xs ys → Paired R (xs ++ [a]) (ys ++ [b])
  | _, _, .nil => .cons h .nil
  | _, _, .cons q t => .cons q (paired_app h t)
theorem ent_put {kd vd : D} {a : Addr} {u : Value} {w : V} (hk : keyD kd = true) (ra : Rp K H (.ref a) kd) (r : RelV w u) (rw' : Rp K H w vd) {kvs : List (D × D)} {xs : List (NestedKey × Addr × Value)} (h : Paired (EntD K H) kvs xs) :
    Paired (EntD K H) (putD kvs kd vd) (storedH xs (nk kd) a u) := by
  unfold putD storedH
  rcases ent_look (kd := kd) h with ⟨e1, e2⟩ | ⟨v, a', u', w', e1, e2, _⟩
  · rw [e1, e2, if_neg (by simp), if_neg (by simp)]
    exact paired_app ⟨hk, rfl, ra, w, r, rw'⟩ h
  · rw [e1, e2]
    exact ent_map r rw' h
theorem putD_len (kvs : List (D × D)) (k v : D) : (putD kvs k v).length ≤ kvs.length + 1 := by
  unfold putD
  split
  · rw [List.length_map]; omega
  · rw [List.length_append]; exact Nat.le_refl _
end
section
variable {X : Cx} {pins : List (Addr × Obj)} {σ : L2.St} {H : Hp} {s : Shared}
theorem nd_of (I : Inv X pins σ H s) {O : List Addr} {l : Addr} {kvs : List (D × D)} {xs : List (NestedKey × Addr × Value)} (h1 : H l = some (.ext (DictBare X.prog X.w xs l))) (h3 : Paired (EntD X.K (hid O H)) kvs xs) : s.heap.DictOfH (nestedKind X.prog X.w) l xs := by
  obtain ⟨⟨o, es, ep, e1, e2, e3, e4, e5⟩, _⟩ := I.hok l _ h1
  refine ⟨o, es, ep, e1, e2, e3, e4, fun x hx => ?_, e5⟩
  have key : ∀ {kvs : List (D × D)} {xs : List (NestedKey × Addr × Value)}, Paired (EntD X.K (hid O H)) kvs xs → x ∈ xs → (nestedKind X.prog X.w).is s.heap x.1 x.2.1 := by
    intro kvs xs h
    induction h with
    | nil => intro q; cases q
    | cons h t ih =>
      intro q
      rcases List.mem_cons.mp q with q | q
      · subst q
        obtain ⟨g1, g2, g3, _⟩ := h
        obtain ⟨a, ea, eb, is⟩ := key_is I g3 rfl g1
        cases eb
        rw [g2]; exact is
      · exact ih q
  exact key h3 hx
theorem bare_ok {xs : List (NestedKey × Addr × Value)} {l : Addr} {h' : Heap} {pr : Program} {wd : World} {Hq : Hp} (b : DictBare pr wd xs l h') : ObjOk pr wd Hq h' l (.ext (DictBare pr wd xs l)) := by
  obtain ⟨o, es, ep, e1, r⟩ := id b
  exact ⟨b, ⟨o, e1⟩, fun h1 h2 ⟨o, es, ep, q1, q2⟩ k => ⟨o, es, ep, k o q1, q2⟩⟩
end
/-! ### the rules -/
def tDNewN (pr : Program) (wd : World) : TE := fun _ H Q => ∀ p, H p = none → (p == sysModules) = false → Q (.ref p) (upd H p (.ext (DictBare pr wd [] p)))
def rIxN (pr : Program) (wd : World) (K : PySem.W.Frag) : R2 := fun x y H Q => ∃ (O : List Addr) (l : Addr) (kvs : List (D × D)) (kd v : D), x = .ref l ∧ NDict pr wd K O H l kvs ∧ Rp K (hid O H) y kd ∧ keyD kd = true ∧ lookD kvs kd = some v ∧ ∀ u, Rp K (hid O H) u v → Q u H
def tGetN (pr : Program) (wd : World) (K : PySem.W.Frag) (td ty tx : TE) : TE := fun σ H Q => td σ H fun x H1 => ∃ l, x = .ref l ∧ (∃ O kvs, NDict pr wd K O H1 l kvs) ∧ ty σ H1 fun y H2 => tx σ H2 fun z H3 => ∃ (O : List Addr) (kvs : List (D × D)) (kd : D), NDict pr wd K O H3 l kvs ∧ Rp K (hid O H3) y kd ∧ keyD kd = true ∧
  (∀ v u, lookD kvs kd = some v → Rp K (hid O H3) u v → Q u H3) ∧ (lookD kvs kd = none → Q z H3)
def rSetN (pr : Program) (wd : World) (K : PySem.W.Frag) : TSet := fun o i v H Q => ∃ (O : List Addr) (l : Addr) (kvs : List (D × D)) (kd vd : D), o = .ref l ∧ l ∈ O ∧ NDict pr wd K O H l kvs ∧ Rp K (hid O H) i kd ∧ keyD kd = true ∧ Rp K (hid O H) v vd ∧ kvs.length < sizeLine ∧
  ∀ φ, NDict pr wd K O (upd H l (.ext φ)) l (putD kvs kd vd) → Q (upd H l (.ext φ))
def rSortN (pr : Program) (wd : World) (K : PySem.W.Frag) : List V → Hp → VK → Prop := fun vs H Q => ∃ (O : List Addr) (l : Addr) (kvs : List (D × D)), vs = [.ref l] ∧ NDict pr wd K O H l kvs ∧ plainAll (kvs.map (·.1)) = true ∧ PySem.W.AllAlike ((kvs.map (·.1)).map dpy) ∧ PySem.W.Sortable ((kvs.map (·.1)).map dpy) ∧ kvs.length ≤ sizeLine ∧
  (∀ d ∈ kvs.map (·.1), (dpy d).depth ≤ 50) ∧ ∀ p ys, H p = none → RpAll K (hid O H) ys (sortD (kvs.map (·.1))) → Q (.ref p) (upd H p (.lst ys))
section
variable {X : Cx} (pr : Program) (wd : World) (K : PySem.W.Frag)
theorem sys_lt {X : Cx} {pins : List (Addr × Obj)} {σ : L2.St} {H : Hp} {s : Shared} (I : Inv X pins σ H s) : (s.heap.objs.size == sysModules) = false := by
  have := I.big
  simp only [beq_eq_false_iff_ne, ne_eq]
  intro e
  exact absurd this (by rw [e]; exact Nat.lt_irrefl _)
theorem pe_dnewN {pos : Pos} (hp : X.prog = pr := by rfl) (hw : X.w = wd := by rfl) : PE X (.Dict [] [] pos) (tDNewN pr wd) := by
  subst hp; subst hw
  refine ⟨fun pins s σ H Q I h => ?_⟩
  refine wpAny_Dict_empty ⟨.ref s.heap.objs.size, _, I.laid (a := s.heap.objs.size) (o := .ext (DictBare X.prog X.w [] s.heap.objs.size)) (t' := s.toks) (fun _ _ q => Heap.get?_push_of_some _ q) (Nat.le_refl _) (bare_ok ?_), rfl, h _ (I.hok.fresh (Nat.le_refl _)) (sys_lt I)⟩
  obtain ⟨o, es, ep, e1, e2, e3, e4, _, e5⟩ := Heap.DictOfH.new (knd := nestedKind X.prog X.w) s.heap
  exact ⟨o, es, ep, e1, e2, e3, e4, e5⟩
theorem x_ixN (hu : X.A.units + 64 < cLine) (hp : X.prog = pr := by rfl) (hw : X.w = wd := by rfl) (hK : X.K = K := by rfl) : IxR X (rIxN pr wd K) := by
  subst hp; subst hw; subst hK
  intro value slice pins s σ H x y v u Q I rx ry h hs
  obtain ⟨O, l, kvs, kd, vd, rfl, ⟨xs, n1, n2, n3⟩, rk, hk, hl, q⟩ := h
  cases rx
  obtain ⟨a, ea, eb, is⟩ := key_is I rk ry hk
  subst eb
  have dd := nd_of I n1 n3
  rcases ent_look (kd := kd) n3 with ⟨e1, _⟩ | ⟨v', a', u', w, e1, e2, e3, e4⟩
  · rw [e1] at hl; cases hl
  · rw [e1] at hl
    cases hl
    refine PyProof.Rows.tail_any dd.typeIs PySem.F.slot_dict_getitem.lookup ?_ hs
    exact wpAny_getItem_heap (by show X.A.in1.units + 8 < cLine; have : X.A.in1.units = X.A.units + 1 := rfl; omega) is dd e2 ⟨w, H, I.tok _, e3, q w e4⟩
theorem x_setN (hu : X.A.units + 64 < cLine) (hp : X.prog = pr := by rfl) (hw : X.w = wd := by rfl) (hK : X.K = K := by rfl) : PSet X (rSetN pr wd K) := by
  subst hp; subst hw; subst hK
  intro pins s σ H o i v ov iv u Q I ro ri rv h
  obtain ⟨O, l, kvs, kd, vd, rfl, lO, ⟨xs, n1, n2, n3⟩, rk, hk, rvd, hz, q⟩ := h
  cases ro
  obtain ⟨a, ea, eb, is⟩ := key_is I rk ri hk
  subst eb
  have dd := nd_of I n1 n3
  refine wpAny_setItem_heap (hsz := by rw [← ent_len n3]; exact Nat.le_of_lt hz) (by show X.A.in1.units + 8 < cLine; have : X.A.in1.units = X.A.units + 1 := rfl; omega) is dd fun h' dd' hs => ?_
  obtain ⟨o, es, ep, e1, e2, e3, e4, _, e5⟩ := dd'
  have bb : DictBare X.prog X.w (storedH xs (nk kd) a u) l h' := ⟨o, es, ep, e1, e2, e3, e4, e5⟩
  refine ⟨_, d_write I (by rw [n1]; exact True.intro) hs ⟨o, e1⟩ (bare_ok bb), q _ ?_⟩
  subst ea
  refine ⟨_, upd_same, n2, ?_⟩
  rw [hid_upd_in lO]
  exact ent_put hk rk rv rvd n3
theorem pe_getN {o e f : Expr} {apos cpos : Pos} {td ty tx : TE} (hu : X.A.units + 64 < cLine) (ho : PE X o td) (he : PE X e ty) (hf : PE X f tx) (m : M2 X o "get" apos e f cpos) (hp : X.prog = pr := by rfl) (hw : X.w = wd := by rfl) (hK : X.K = K := by rfl) :
    PE X (.Call (.Attribute o "get" apos) [e, f] [] cpos) (tGetN pr wd K td ty tx) := by
  subst hp; subst hw; subst hK
  refine ⟨fun pins s σ H Q I h => ?_⟩
  refine wpAny_Call_method m.base m.few m.line PySem.F.plainAttrs_dict PySem.F.slot_dict_get PySem.F.type_dict_get (thn (ho.run pins s σ H _ I h) fun u s1 ⟨x, H1, I1, rx, l, ex, ⟨O, kvs, xs, n1, n2, n3⟩, q1⟩ => ?_)
  subst ex
  obtain rfl : u = Value.ref l := rx
  have dd := nd_of I1 n1 n3
  refine ⟨dd.typeIs, fun b eb => ?_, ?_⟩
  · cases eb
    obtain ⟨o, es, ep, e1, e2, _⟩ := dd
    exact ⟨o, e1, e2.2.1⟩
  rw [m.trees]
  refine Calls.callWith_builtin rfl (Calls.evalArgs_plain (Calls.spliced_cons (thn (he.run pins s1 σ H1 _ I1 q1) fun iv s2 ⟨y, H2, I2, ry, q2⟩ =>
    Calls.spliced_cons (thn (hf.run pins s2 σ H2 _ I2 q2) fun fv s3 ⟨z, H3, I3, rz, O3, kvs3, kd, ⟨xs3, m1, m2, m3⟩, rk, hk, qs, qn⟩ => Calls.spliced_nil ?_))))
  obtain ⟨a, ea, eb, is⟩ := key_is I3 rk ry hk
  subst eb
  have dd3 := nd_of I3 m1 m3
  refine call_meetsIn PySem.F.slot_dict_get dd3.typeIs PySem.F.entry_dict_get (PySem.F.args_dict_get_3 _ _ _) (meetsH_dict_get_default (nestedKind X.prog X.w) l a m2 fv) ⟨by show X.A.in1.units + 8 < cLine; have : X.A.in1.units = X.A.units + 1 := rfl; omega, nk kd, xs3, is, dd3, ?_⟩
  rcases ent_look (kd := kd) m3 with ⟨e1, e2⟩ | ⟨v', a', u', w, e1, e2, e3, e4⟩
  · rw [e2]
    exact ⟨z, H3, I3.tok _, rz, qn e1⟩
  · rw [e2]
    exact ⟨w, H3, I3.tok _, e3, qs v' w e1 e4⟩
end
end L3
/-! L3j: sorted(d); the rules of own dicts over data; count. -/
namespace L3
open PySem L2 PySem.W PyProof.Rows PySem.Calls PyProof.V
section
variable {prog : Program} {w : World} {A : Around} {E : Value → Shared → Prop} {s : Shared}
theorem sorted_dictH {β : Type} {R : Value → β → Prop} {enc : β → PyData} {bs : List β} {d : Addr} {es : Array DictEntry} {ep : Nat} {Q : Value → Shared → Prop} (hh : A.handled = none) (lo : (d == sysModules) = false) (hD : s.heap.DictRaw d es ep)
    (e : EachIs R (es.toList.map (·.key)) bs) (er : EachIs (fun v b => ∃ as, Reads s.heap v (enc b) as) (es.toList.map (·.key)) bs) (hal : AllAlike (bs.map enc)) (hk : Sortable (bs.map enc)) (hL : bs.length ≤ sizeLine)
    (hu : ∀ b, b ∈ bs → A.units + 2 + (enc b).depth < cLine)
    (h : ∀ (h1 h2 : Heap) (tk : Nat) (out : List Value) (c : Nat), (∀ b o, s.heap.get? b = some o → h1.get? b = some o) → (∀ b o, h1.get? b = some o → h2.get? b = some o) → h2.get? h1.objs.size = some { cls := .type "list", data := .seq out.toArray c } → out.length = bs.length → EachIs R out (bs.mergeSort (dataLe false enc)) → Q (.ref h1.objs.size) { s with heap := h2, toks := tk }) :
    wpAny (model prog w) A (call (.builtin "sorted") [.ref d]) Q E s := by
  have hn : es.size ≤ sizeLine := by
    have q := e.length
    rw [List.length_map, Array.length_toList] at q
    omega
  refine call_function_entry kind_sorted plain_sorted entry_sorted (args_sorted1 _) ?_
  unfold Builtin.«sorted»
  refine wpAny_bind (m := checkCount "sorted" 1 1 _) (wpAny_pure ?_)
  refine wpAny_bind (kdu_collect (A := A.in1) (KdlSrc.rawDict lo) hh hD hn fun h' tk acc hkp hacc => ?_)
  have hl : acc.toList = es.toList.map (·.key) := by
    apply List.ext_getElem?
    intro j
    by_cases hj : j < acc.size
    · obtain ⟨hi, hv⟩ := hacc.2 j acc[j] (by simp [hj])
      rw [Array.getElem?_toList, Array.getElem?_eq_getElem hj, List.getElem?_map, Array.getElem?_toList, Array.getElem?_eq_getElem hi, hv]; rfl
    · have hs : acc.size = es.size := hacc.1
      rw [Array.getElem?_toList, Array.getElem?_eq_none (by omega), List.getElem?_map, Array.getElem?_toList, Array.getElem?_eq_none (by omega)]; rfl
  have hz : acc.toList.length ≤ sizeLine := by rw [Array.length_toList, hacc.1]; exact hn
  refine wpAny_bind (wpAny_newList ?_ hz)
  rw [hl] at hz ⊢
  generalize hvs : es.toList.map (·.key) = vs at e er hz ⊢
  have ho : (h'.push { cls := .type "list", data := .seq vs.toArray }).get? h'.objs.size = some (seqObj "list" vs.toArray 0) := Heap.get?_push_size _ rfl
  have old : ∀ b o, s.heap.get? b = some o → (sortingHeap (h'.push { cls := .type "list", data := .seq vs.toArray }) h'.objs.size vs).get? b = some o := fun b o q =>
    sortingHeap_old (Nat.ne_of_lt (Heap.lt_size (hkp b o q))) (Heap.get?_push_of_some _ (hkp b o q))
  have er' : EachIs (fun v b => ∃ as, Reads (sortingHeap (h'.push { cls := .type "list", data := .seq vs.toArray }) h'.objs.size vs) v (enc b) as) vs bs := er.mono fun _ _ ⟨as, r⟩ => ⟨as, PyProof.Rows.Reads.keeps old r⟩
  refine wpAny_bind (wpAny_holding ?_)
  refine wpAny_call_entry slot_list_sort ⟨_, ho, rfl⟩ entry_list_sort (list_sort_vals (κ := dataKind (sortingHeap (h'.push { cls := .type "list", data := .seq vs.toArray }) h'.objs.size vs) (bs.map enc)) ho (SortsAt.data (s := { s with heap := sortingHeap (h'.push { cls := .type "list", data := .seq vs.toArray }) h'.objs.size vs, toks := tk }) (each_map (R := fun v d => ∃ as, Reads (sortingHeap (h'.push { cls := .type "list", data := .seq vs.toArray }) h'.objs.size vs) v d as) enc er') hal hk (bound_map hu)) (by rw [e.length]; exact hL) ⟨.none, rfl, ?_⟩) (args_list_sort _)
  obtain ⟨c, hc⟩ := sortedHeap_at (out := (sortVals (dataKind (sortingHeap (h'.push { cls := .type "list", data := .seq vs.toArray }) h'.objs.size vs) (bs.map enc)) false vs vs).toArray) ho
  refine wpAny_pure ⟨_, rfl, h h' _ tk _ c hkp ?_ hc (by rw [sortVals_length false rfl]; exact e.length) (sortVals_data false e er' hal)⟩
  intro b o q
  rw [sortedHeap_old (Nat.ne_of_lt (Heap.lt_size q)) (Nat.lt_of_lt_of_le (Heap.lt_size q) (by rw [Heap.size_push]; exact Nat.le_succ _))]
  exact Heap.get?_push_of_some _ q
end
section
variable {X : Cx} (pr : Program) (wd : World) (K : PySem.W.Frag)
theorem ent_keys {K : PySem.W.Frag} {H : Hp} : ∀ {kvs : List (D × D)} {xs : List (NestedKey × Addr × Value)}, Paired (EntD K H) kvs xs → EachIs (fun (u : Value) (d : D) => ∃ v, RelV v u ∧ Rp K H v d) (xs.map fun x => Value.ref x.2.1) (kvs.map (·.1))
  | _, _, .nil => .nil
  | _, _, .cons (a := kv) (b := x) h t => .cons ⟨V.ref x.2.1, rfl, h.2.2.1⟩ (ent_keys t)
theorem x_sortN (hu : X.A.units + 64 < cLine) (hcalm : X.calm = true := by rfl) (hp : X.prog = pr := by rfl) (hw : X.w = wd := by rfl) (hK : X.K = K := by rfl) : CallR X (.builtin "sorted") (rSortN pr wd K) := by
  subst hp; subst hw; subst hK
  intro pins s σ H vs us Q I r h
  obtain ⟨O, l, kvs, rfl, ⟨xs, n1, n2, n3⟩, hpl, hal, hk, hL, hdep, q⟩ := h
  rw [Vals.ref1 r]
  obtain ⟨⟨o, es, ep, e1, e2, e3, e4, e5⟩, _⟩ := I.hok l _ n1
  have el := ent_keys n3
  have ek : es.toList.map (·.key) = xs.map fun x => Value.ref x.2.1 := by rw [e4, List.map_map]; rfl
  have er : EachIs (fun (u : Value) (d : D) => ∃ as, Reads s.heap u (dpy d) as) (xs.map fun x => Value.ref x.2.1) (kvs.map (·.1)) := by
    refine (each_mem el).mono ?_
    rintro u d ⟨⟨v, r1, r2⟩, hd⟩
    exact Dp.reads I (dpy d) v u (Dp.mono same_hid (r2.dp (plainAll_mem hpl hd))) r1
  refine sorted_dictH (s := s) (I.ok.hd hcalm) n2 ⟨o, e1, e2, e3⟩ (by rw [ek]; exact el) (by rw [ek]; exact er) hal hk (by rw [List.length_map]; exact hL) (fun d hd => by have := hdep d hd; omega) fun h1 h2 tk out c k1 k2 hc ho eo => ?_
  obtain ⟨ys, g1, g2⟩ := rp_each eo
  have hlen : ys.length ≤ sizeLine := by rw [g1.length, ho, List.length_map]; exact hL
  have I1 : Inv X pins σ H { s with heap := h1 } := I.kept (t' := s.toks) k1
  exact ⟨.ref _, upd H h1.objs.size (.lst ys), I1.laid (t' := tk) k2 (Nat.le_refl _) ⟨hlen, out, c, g1, hc⟩, rfl, q _ ys (I1.hok.fresh (Nat.le_refl _)) g2⟩
/-- list.count of data -/
def rCountD (K : PySem.W.Frag) : V → List V → Hp → VK → Prop := fun x vs H Q => ∃ (O : List Addr) (y : V) (ds : List D) (d : D), vs = [y] ∧ Rp K (hid O H) x (.lst ds) ∧ Rp K (hid O H) y d ∧ fit d = true ∧ fit (.lst ds) = true ∧ Q (.int ((ds.countP fun z => eqD z d : Nat) : Int)) H
theorem countP_map {α β : Type} (f : α → β) (p : β → Bool) (l : List α) : (l.map f).countP p = l.countP (p ∘ f) := by rw [List.countP_map]
theorem x_count (hu : X.A.units + 65 < cLine) (hK : X.K = K := by rfl) : MtR X "list.count" (rCountD K) := by
  subst hK
  intro pins s σ H x vs v us Q I rx rv h
  obtain ⟨O, y, ds, d, rfl, rl, ry, hd, hds, q⟩ := h
  cases rl with
  | @lst a xs _ hs ha =>
    cases rx
    cases rv with
    | cons r1 r2 =>
      cases r2
      obtain ⟨its, n, rit, e, hz⟩ := inv_rdL I (same_rd same_hid hs)
      obtain ⟨bs, rd⟩ := Dp.reads I (dpy d) y _ (Dp.mono same_hid (ry.dp (fit_p hd))) r1
      obtain ⟨as, ra⟩ := Dp.readsAll I (dpyAll ds) xs its (DpAll.mono same_hid (ha.dp (fit_p hds))) rit
      have hxs : PyData.canLayAll0 (dpyAll ds) = true := SeqAt.canLay_of_shaped (fit_s hds)
      have hroom : X.A.units + 1 + min (PyData.depthAll (dpyAll ds)) (dpy d).depth < cLine := room_in_shaped (fit_s hd) hu
      have hmap : its.map (SeqAt.readOf s.heap) = dpyAll ds := SeqAt.readsAll_map (dpyAll ds) its as hxs ra
      refine call_meets PySem.F.slot_list_count ⟨_, e, rfl⟩ PySem.F.entry_list_count (PySem.F.args_list_count_2 _ _) (SeqAt.list_countAt a its.toArray n none #[] _ (fun u => PyData.eqv (SeqAt.readOf s.heap u) (dpy d))) ⟨e, SeqAt.items_eqAt (vs := its.toArray) (show ReadsAll s.heap its.toArray.toList (dpyAll ds) as from ra) rd hxs (SeqAt.canLay_of_shaped (fit_s hd)) hroom, ?_⟩
      refine ⟨.int _, H, I.tok _, ⟨_, rfl⟩, ?_⟩
      have ec : its.toArray.toList.countP (fun u => PyData.eqv (SeqAt.readOf s.heap u) (dpy d)) = ds.countP fun z => eqD z d := by
        rw [List.toList_toArray]
        have h1 : its.countP (fun u => PyData.eqv (SeqAt.readOf s.heap u) (dpy d)) = (its.map (SeqAt.readOf s.heap)).countP fun z => PyData.eqv z (dpy d) := by rw [List.countP_map]; rfl
        rw [h1, hmap, dpyAll_map, List.countP_map]; rfl
      rw [ec]
      exact q
end
end L3
/-! L3k: own dicts over data. -/
namespace L3
open PySem L2
section
variable {X : Cx} (K : PySem.W.Frag)
theorem x_bm {o e : Expr} {es : List Expr} {to : TE} {t : TA} {name : Str} {apos cpos : Pos} {T id : String} {r : V → List V → Hp → VK → Prop} (h : PE X (.Call (.Attribute o name apos) (e :: es) [] cpos) (tBM X.K T r to t)) (hK : X.K = K := by rfl) : PE X (.Call (.Attribute o name apos) (e :: es) [] cpos) (tBM K T r to t) := hK ▸ h
end
section
variable {c : Ctx} {ρ : List SD} {n : Nat} {ta tb te : TE} {t u : TT} {as : TA} {Φ : Nat → D → Prop} {Ψ : Out} {ts us : TS}
theorem we_count {te2 : TE} (h : WE c te ρ n fun n1 d => ∃ ds, d = .lst ds ∧ WE c te2 ρ n1 fun n2 e => fit e = true ∧ fit (.lst ds) = true ∧ Φ n2 (.int ((ds.countP fun z => eqD z e : Nat) : Int))) : WE c (tBM c.K "list" (rCountD c.K) te (tCons te2 tNil)) ρ n Φ := fun P L σ H Q E q => by
  refine h P L σ H _ E fun x d n1 H1 s1 j1 r1 ⟨ds, e, h1⟩ => ?_
  subst e
  have E1 := E.step s1 j1
  cases r1 with
  | @lst a xs _ hs ha =>
    refine ⟨.inl ⟨rfl, xs, .inl (same_rd same_hid hs)⟩, ?_⟩
    refine h1 P L σ H1 _ E1 fun y d2 n2 H2 s2 j2 r2 ⟨f1, f2, k⟩ => ?_
    exact ⟨L ++ c.O, y, ds, d2, rfl, (Rp.lst hs ha).mono (E1.sameLO s2), r2, f1, f2, q _ _ n2 H2 (s1.trans s2) j2 (.int _) k⟩
theorem Env.dic_get {P : Hp} {L : List Addr} {n : Nat} {H : Hp} {σ : List (Option V)} {i : Nat} {kvs : List (D × D)} (E : Env c P L n H σ ρ) (h : ρ[i]? = some (.dic kvs)) : ∃ l, σ[i]? = some (some (.ref l)) ∧ l ∈ L ∧ NDict c.pr c.wd c.K (L ++ c.O) H l kvs := by
  obtain ⟨Ls, sl, sb⟩ := E.slots
  obtain ⟨l, h1, h2, h3⟩ := sl.getD h
  exact ⟨l, h1, sb.subset h2, h3⟩
theorem we_dix {i : Nat} {kvs : List (D × D)} (h0 : ρ[i]? = some (.dic kvs)) (h : WE c te ρ n fun n1 kd => keyD kd = true ∧ ∃ v, lookD kvs kd = some v ∧ Φ n1 v) : WE c (tOp (rIxN c.pr c.wd c.K) (tVar i) te) ρ n Φ := fun P L σ H Q E q => by
  obtain ⟨l, h1, hL, h2⟩ := E.dic_get h0
  refine ⟨.ref l, h1, ?_⟩
  refine h P L σ H _ E fun y kd n1 H1 s1 j1 r1 ⟨hk, v, hv, k⟩ => ?_
  have E1 := E.step s1 j1
  obtain ⟨l', g1, _, g2⟩ := E1.dic_get h0
  rw [h1] at g1
  cases g1
  exact ⟨L ++ c.O, l, kvs, kd, v, rfl, g2, r1, hk, hv, fun u r => q u v n1 H1 s1 j1 r k⟩
theorem we_dget {i : Nat} {kvs : List (D × D)} {tx : TE} (h0 : ρ[i]? = some (.dic kvs)) (h : WE c te ρ n fun n1 kd => WE c tx ρ n1 fun n2 xd => keyD kd = true ∧ Φ n2 ((lookD kvs kd).getD xd)) : WE c (tGetN c.pr c.wd c.K (tVar i) te tx) ρ n Φ := fun P L σ H Q E q => by
  obtain ⟨l, h1, hL, h2⟩ := E.dic_get h0
  refine ⟨.ref l, h1, l, rfl, ⟨_, _, h2⟩, ?_⟩
  refine h P L σ H _ E fun y kd n1 H1 s1 j1 r1 h3 => ?_
  have E1 := E.step s1 j1
  refine h3 P L σ H1 _ E1 fun z xd n2 H2 s2 j2 r2 ⟨hk, k⟩ => ?_
  have E2 := E1.step s2 j2
  obtain ⟨l', g1, _, g2⟩ := E2.dic_get h0
  rw [h1] at g1
  cases g1
  refine ⟨L ++ c.O, kvs, kd, g2, r1.mono (E1.sameLO s2), hk, fun v u hv ru => ?_, fun hn => ?_⟩
  · rw [hv] at k
    exact q u v n2 H2 (s1.trans s2) j2 ru k
  · rw [hn] at k
    exact q z xd n2 H2 (s1.trans s2) j2 r2 k
theorem Slots.dic_at {pr : Program} {wd : World} {K : PySem.W.Frag} {O : List Addr} {H : Hp} {kvs lvs : List (D × D)} : ∀ {σ : List (Option V)} {ρ : List SD} {L : List Addr} {i : Nat}, Slots pr wd K O H σ ρ L → L.Nodup → ρ[i]? = some (.dic kvs) → ∃ l, σ[i]? = some (some (.ref l)) ∧ l ∈ L ∧ NDict pr wd K O H l kvs ∧
    ∀ (o : HO), NDict pr wd K O (upd H l o) l lvs → hid O (upd H l o) = hid O H → Slots pr wd K O (upd H l o) σ (ρ.set i (.dic lvs)) L
  | _, _, _, _, .nil, _, e => by simp at e
  | _, _, _, 0, .un _, _, e => by simp at e
  | _, _, _, i + 1, .un s, nd, e => by
    obtain ⟨l, h1, h2, h3, h5⟩ := Slots.dic_at (i := i) s nd (by simpa using e)
    exact ⟨l, by simpa using h1, h2, h3, fun ys a b => .un (h5 ys a b)⟩
  | _, _, _, 0, .val _ _, _, e => by simp at e
  | _, _, _, i + 1, .val r s, nd, e => by
    obtain ⟨l, h1, h2, h3, h5⟩ := Slots.dic_at (i := i) s nd (by simpa using e)
    exact ⟨l, by simpa using h1, h2, h3, fun ys a b => .val (by rw [b]; exact r) (h5 ys a b)⟩
  | _, _, _, 0, .own _ _ _, _, e => by simp at e
  | _, _, _, i + 1, .own h r s, nd, e => by
    obtain ⟨l, h1, h2, h3, h5⟩ := Slots.dic_at (i := i) s (List.nodup_cons.mp nd).2 (by simpa using e)
    exact ⟨l, by simpa using h1, List.mem_cons_of_mem _ h2, h3, fun ys a b => .own ((upd_ne fun e => (List.nodup_cons.mp nd).1 (by rw [e]; exact h2)).trans h) (by rw [b]; exact r) (h5 ys a b)⟩
  | _, _, _, 0, .dic h s, nd, e => by
    simp at e
    subst e
    exact ⟨_, rfl, List.mem_cons_self, h, fun ys a b => .dic a (s.move (fun l hl => upd_ne fun e => (List.nodup_cons.mp nd).1 (by rw [← e]; exact hl)) (by rw [b]; exact Same.refl _))⟩
  | _, _, _, 0, .dk h s, nd, e => by simp at e
  | _, _, _, 0, .tw h s, nd, e => by simp at e
  | _, _, _, i + 1, .dic h s, nd, e => by
    obtain ⟨l, h1, h2, h3, h5⟩ := Slots.dic_at (i := i) s (List.nodup_cons.mp nd).2 (by simpa using e)
    exact ⟨l, by simpa using h1, List.mem_cons_of_mem _ h2, h3, fun ys a b => .dic (h.move (upd_ne fun e => (List.nodup_cons.mp nd).1 (by rw [e]; exact h2)) (by rw [b]; exact Same.refl _)) (h5 ys a b)⟩
  | _, _, _, i + 1, .dk h s, nd, e => by
    obtain ⟨l, h1, h2, h3, h5⟩ := Slots.dic_at (i := i) s (List.nodup_cons.mp nd).2 (by simpa using e)
    exact ⟨l, by simpa using h1, List.mem_cons_of_mem _ h2, h3, fun ys a b => .dk (h.move (upd_ne fun e => (List.nodup_cons.mp nd).1 (by rw [e]; exact h2)) (by rw [b]; exact Same.refl _)) (h5 ys a b)⟩
  | _, _, _, i + 1, .tw h s, nd, e => by
    obtain ⟨l, h1, h2, h3, h5⟩ := Slots.dic_at (i := i) s (List.nodup_cons.mp nd).2 (by simpa using e)
    exact ⟨l, by simpa using h1, List.mem_cons_of_mem _ h2, h3, fun ys a b => .tw (h.move (upd_ne fun e => (List.nodup_cons.mp nd).1 (by rw [e]; exact h2)) (by rw [b]; exact Same.refl _)) (h5 ys a b)⟩
theorem Env.dic_at {P : Hp} {L : List Addr} {n : Nat} {H : Hp} {σ : List (Option V)} {i : Nat} {kvs : List (D × D)} (E : Env c P L n H σ ρ) (h : ρ[i]? = some (.dic kvs)) : ∃ l, σ[i]? = some (some (.ref l)) ∧ l ∈ L ++ c.O ∧ NDict c.pr c.wd c.K (L ++ c.O) H l kvs ∧
    ∀ (o : HO) (lvs : List (D × D)), NDict c.pr c.wd c.K (L ++ c.O) (upd H l o) l lvs → Env c P L n (upd H l o) σ (ρ.set i (.dic lvs)) := by
  obtain ⟨Ls, sl, sb⟩ := E.slots
  have nd := sb.nodup E.nd
  obtain ⟨l, h1, h2, h3, _⟩ := sl.dic_at (lvs := kvs) nd h
  have lL := sb.subset h2
  have hm : l ∈ L ++ c.O := List.mem_append_left _ lL
  have hO : l ∉ c.O := (E.fresh l lL).2
  refine ⟨l, h1, hm, h3, fun o lvs hy => ?_⟩
  have bs : Same (hid c.B c.H0) (hid c.B (upd H l o)) := same_upd_old (E.fresh l lL).1 E.base
  obtain ⟨l', g1, g2, g3, g5⟩ := sl.dic_at (lvs := lvs) nd h
  rw [h1] at g1
  cases g1
  exact { nd := E.nd, fresh := E.fresh, slots := ⟨Ls, g5 o hy (hid_upd_in hm), sb⟩,
          lst := fun a ha => by
            by_cases e : a = l
            · exact ⟨_, by rw [e, upd_same]⟩
            · rw [upd_ne e]; exact E.lst a ha,
          bag := fun b q hb => (E.bag b q hb).move (fun o h => by rw [upd_ne fun e : b = l => hO (e ▸ (E.bO b q hb).1)]; exact h) fun o h => by rw [upd_ne fun e : q = l => hO (e ▸ (E.bO b q hb).2.1)]; exact h,
          base := bs, pers := by rw [hid_upd_in hm]; exact E.pers, bO := E.bO,
          al := fun o ho => by rw [upd_ne fun e : o = l => hO (e ▸ ho)]; exact E.al o ho }
/-- d[k] = e -/
theorem ws_dput {i : Nat} {kvs : List (D × D)} {tk : TE} (h0 : ρ[i]? = some (.dic kvs)) (hz : kvs.length < 16777216) (h : WE c te ρ n fun n1 vd => WE c tk ρ n1 fun n2 kd => keyD kd = true ∧ Ψ.nx n2 (ρ.set i (.dic (putD kvs kd vd)))) : WS c (tAsg te (gSub (tVar i) tk (rSetN c.pr c.wd c.K))) ρ n Ψ := fun P L σ H Dn E A => by
  refine h P L σ H _ E fun y vd n1 H1 s1 j1 r1 h1 => ?_
  have E1 := E.step s1 j1
  obtain ⟨l, g1, gL, g2, _⟩ := E1.dic_at h0
  refine ⟨.ref l, g1, ?_⟩
  refine h1 P L σ H1 _ E1 fun z kd n2 H2 s2 j2 r2 ⟨hk, k⟩ => ?_
  have E2 := E1.step s2 j2
  obtain ⟨l', g1', gL', g2', up⟩ := E2.dic_at h0
  rw [g1] at g1'
  cases g1'
  refine ⟨L ++ c.O, l, kvs, kd, vd, rfl, gL, g2', r2, hk, r1.mono (E1.sameLO s2), by rw [sizeLine_eq]; exact hz, fun φ hN => ?_⟩
  exact A.nx L n2 _ σ _ (up _ _ hN) k
/-- {} -/
theorem ws_dnew {i : Nat} (hi : i < ρ.length) (k : Ψ.nx n (ρ.set i (.dic []))) : WS c (tAsg (tDNewN c.pr c.wd) (gName i)) ρ n Ψ := fun P L σ H Dn E A => by
  intro p hp hs
  have w := E.new hp
  have nin : p ∉ L ++ c.O := E.noO p hp
  have T := E.newT (o := .ext (DictBare c.pr c.wd [] p)) hp
  have E1 := E.step T.1 T.2.1
  have e0 : ∀ O, hid (p :: O) (upd H p (.ext (DictBare c.pr c.wd [] p))) = hid O H := fun O => hid_new_in hp
  obtain ⟨Ls, sl0, sb⟩ := E.slots
  have sl : Slots c.pr c.wd c.K (p :: (L ++ c.O)) (upd H p (.ext (DictBare c.pr c.wd [] p))) σ ρ Ls := sl0.move (fun l hl => upd_ne fun e => w.2.2 (e ▸ sb.subset hl)) (by rw [e0]; exact Same.refl _)
  have nd : NDict c.pr c.wd c.K (p :: (L ++ c.O)) (upd H p (.ext (DictBare c.pr c.wd [] p))) p [] := ⟨[], upd_same, hs, .nil⟩
  obtain ⟨L1, L2, L3, sl2, eL, sub⟩ := Slots.setN nd (fun q => w.2.2 (sb.subset q)) i hi sl
  have mv : ∃ Lp : List Addr, (L1 ++ p :: L2).Sublist Lp ∧ Lp.Perm (p :: L) := by
    rw [eL] at sb
    have h5 : (L1 ++ L2).Sublist L := (List.Sublist.append_left sub L1).trans sb
    exact ins_sub h5
  obtain ⟨Lp, sLp, pLp⟩ := mv
  have mem : ∀ a, a ∈ Lp ++ c.O ↔ a ∈ p :: (L ++ c.O) := fun a => by
    rw [show p :: (L ++ c.O) = (p :: L) ++ c.O from rfl, List.mem_append, List.mem_append, pLp.mem_iff]
  refine A.nx Lp n _ _ _ ?_ k
  exact { nd := pLp.nodup_iff.mpr (List.nodup_cons.mpr ⟨w.2.2, E.nd⟩),
          fresh := fun l hl => by
            rcases List.mem_cons.mp (pLp.mem_iff.mp hl) with q | q
            · subst q; exact ⟨w.1, w.2.1⟩
            · exact E.fresh l q,
          slots := ⟨_, sl2.move (fun _ _ => rfl) (same_hid_sub fun a ha => (mem a).mp ha), sLp⟩,
          lst := fun l hl => by
            rcases List.mem_cons.mp (pLp.mem_iff.mp hl) with q | q
            · subst q; exact ⟨_, upd_same⟩
            · exact E1.lst l q,
          bag := T.2.1,
          base := E1.base,
          pers := (E.pers.trans (by rw [e0]; exact Same.refl _)).trans (same_hid_sub fun a ha => (mem a).mp ha),
          bO := E.bO, al := E1.al }
/-- sorted(d) -/
theorem wf_dsort {i : Nat} {kvs : List (D × D)} {Φ : Nat → List D → Prop} (h0 : ρ[i]? = some (.dic kvs)) (hp : plainAll (kvs.map (·.1)) = true) (hal : PySem.W.AllAlike ((kvs.map (·.1)).map dpy)) (hk : PySem.W.Sortable ((kvs.map (·.1)).map dpy)) (hL : kvs.length ≤ sizeLine)
    (hd : ∀ d ∈ kvs.map (·.1), (dpy d).depth ≤ 50) (k : Φ n (sortD (kvs.map (·.1)))) : WF c (tCB (rSortN c.pr c.wd c.K) (tCons (tVar i) tNil)) ρ n Φ := fun P L σ H Q E q => by
  obtain ⟨l, h1, hL', h2⟩ := E.dic_get h0
  refine ⟨.ref l, h1, L ++ c.O, l, kvs, rfl, h2, hp, hal, hk, hL, hd, fun p ys hpn hy => ?_⟩
  have T := E.newT (o := .lst ys) hpn
  exact q p ys _ n _ T.1 hpn upd_same (by rw [hid_new_in hpn]; exact hy) T.2.1 k
end
end L3
/-! L3l: defs with defaults, keyword calls, defs as callers see them, small rules. -/
namespace L3
open PySem L2
section
variable {P : Program} {w : World} {K : PySem.W.Frag} {mg : Str → Option Value} {base : Heap}
/-- a def with defaults by its body, over data -/
theorem fn_DD {x qual : Str} {st : Stmt} {f : Addr} {fd : FuncData} {N ps : List Str} {k : Nat} {S : Spec} {dvs : List V} (F : FunD K x qual (defArgs st) (defBody st) (defScope st) dvs [] f fd) (sc : FnScope N ps (defScope st))
    (len : ∀ bag n ds Φ, S bag n ds Φ → ds.length = ps.length)
    (body : ∀ (cdv : Value) (A : Around) (outer : List PySem.Env) (s : Shared) (H : Hp) (E : XK) (O : List Addr) (bag : Option (Addr × Addr)) (n : Nat) (ds : List D) (Φ : Nat → D → Prop), Room k (A.deeper (PyProof.Rows.envOfC qual (defScope st) s.heap.objs.size f cdv)) → S bag n ds Φ →
      ∃ t, PSs (cxOf CX0 P w K mg base N qual (defScope st) f cdv A outer s H E).nox (defBody st) t ∧ WS ⟨P, w, K, O, bag, H⟩ t (rho N ds) n { nx := fun n' _ => Φ n' .non, rt := Φ }) :
    FnOk P w K mg base CX0 (k + 1) f fd ps (spD K S) := by
  refine F.ok sc (fun vs H Q E h => ?_) (fun cdv A outer s H vs Q E hr h => ?_)
  · obtain ⟨O, bag, n, ds, Φ, _, _, r, hS, _⟩ := h
    rw [r.length]; exact len bag n ds Φ hS
  · obtain ⟨O, bag, n, ds, Φ, hb, hO, r, hS, q⟩ := h
    obtain ⟨t, ht, W⟩ := body cdv A outer s H E O bag n ds Φ hr hS
    refine ⟨t, ht.nox, W (fun _ => none) [] _ H _ ?_ ?_⟩
    · have e : L2.start N vs = vs.map some ++ List.replicate (N.length - ds.length) none := by unfold L2.start; rw [r.length]
      exact { nd := List.nodup_nil, fresh := (fun l hl => nomatch hl), slots := ⟨[], by rw [e]; exact slots_start r, List.Sublist.refl _⟩, lst := (fun l hl => nomatch hl), bag := fun b q e => (hb b q e).1, base := Same.refl _,
              pers := (fun _ _ e => nomatch e), bO := fun b q e => (hb b q e).2, al := hO }
    · exact { nx := fun L n' H' σ ρ E k => q .non .non n' H' E.base (fun b q e => E.bag b q e) .non k,
              rt := fun v d n' H' s j r k => q v d n' H' s j r k, bk := fun _ _ _ _ _ _ k => k.elim, ct := fun _ _ _ _ _ _ k => k.elim }
end
section
variable {c : Ctx} {ρ : List SD} {n : Nat} {as tk : TA} {Φ : Nat → D → Prop}
theorem we_ty {T : String} (k : Φ n (.ty T)) : WE c (tC (.ty T)) ρ n Φ := fun P L σ H Q E q => q _ _ n H (Same.refl _) E.bag (.ty T) k
theorem we_callK {S : Spec} {gV : List V → List V → List V} {XE : XK} (h : WA c as ρ n fun n1 ds => WA c tk ρ n1 fun n2 es => ∃ fs, (∀ H vs zs, RpAll c.K H vs ds → RpAll c.K H zs es → RpAll c.K H (gV vs zs) fs) ∧ S c.bag n2 fs Φ) : WE c (tCallK (spD c.K S) gV XE as tk) ρ n Φ := fun P L σ H Q E q => by
  refine h P L σ H _ E fun vs ds n1 H1 s1 j1 r1 h1 => ?_
  have E1 := E.step s1 j1
  refine h1 P L σ H1 _ E1 fun zs es n2 H2 s2 j2 r2 ⟨fs, g, k⟩ => ?_
  have E2 := E1.step s2 j2
  refine ⟨L ++ c.O, c.bag, n2, fs, Φ, fun b q hb => ⟨j2 b q hb, List.mem_append_right _ (E.bO b q hb).1, List.mem_append_right _ (E.bO b q hb).2.1, (E.bO b q hb).2.2⟩, E2.alLO, g _ _ _ (E1.ups (n' := n1) (H2 := H) s2 r1) r2, k, fun v d n3 H3 s3 j3 r3 k3 => ?_⟩
  exact q v d n3 H3 ((s1.trans s2).trans s3) j3 r3 k3
/-- a def as its callers see it -/
structure Dn (P : Program) (w : World) (K : PySem.W.Frag) (mg : Str → Option Value) (base : Heap) (x : Str) (k : Nat) (ps : List Str) (dv : List V) (dw : List Value) (S : L3.Spec) where
  f : Addr
  fd : FuncData
  G : FnOk P w K mg base CX0 k f fd ps (spD K S)
  m : mg x = some (.ref f)
  k : PySem.W.keepIn K (.ref f) = true
  b : Binds K fd ps dw
  v : Vals dv dw
theorem cut_to {xs : List D} {i : Nat} (h : i ≤ xs.length) : cutD xs none (some (i : Int)) = xs.take i := by
  unfold cutD
  have e : HT.sIx xs.length xs.length (some (i : Int)) = i := by rw [HT.sIx_nat]; omega
  rw [e]
  have e0 : HT.sIx xs.length 0 none = 0 := rfl
  rw [e0]; simp
theorem cut_map {α : Type} (f : α → D) (xs : List α) (lo hi : Option Int) : ∃ ys : List α, cutD (xs.map f) lo hi = ys.map f ∧ ys.Sublist xs := by
  unfold cutD
  rw [← List.map_drop, ← List.map_take]
  exact ⟨_, rfl, (List.take_sublist _ _).trans (List.drop_sublist _ _)⟩
end
/-- a def with a raw promise, as its callers see it -/
structure Dr (P : Program) (w : World) (K : PySem.W.Frag) (mg : Str → Option Value) (base : Heap) (x : Str) (k : Nat) (ps : List Str) (S : Sp) where
  f : Addr
  fd : FuncData
  G : FnOk P w K mg base CX0 k f fd ps S
  m : mg x = some (.ref f)
  k : PySem.W.keepIn K (.ref f) = true
  b : Binds K fd ps []
  v : Vals [] []
theorem we_slA {c : Ctx} {ρ : List SD} {n : Nat} {tl th : TO} {Φ : Nat → D → Prop} {i : Nat} {a : Addr} {ns : List Int} (hB : c.bag = none) (hS : SqL c.K c.H0 a (ns.map V.int)) (hi : ρ[i]? = some (.val (.adr a)))
    (h : WO c tl ρ n fun n2 lo => WO c th ρ n2 fun n3 hi => Φ n3 (.lst (cutD (ns.map .int) lo hi))) : WE c (tSl (rSlS3 c.K) (tVar i) tl th) ρ n Φ := fun P L σ H Q E q => by
  refine we_var (Φ := fun n1 d => n1 = n ∧ d = .adr a) hi ⟨rfl, rfl⟩ P L σ H _ E fun x d n1 H1 s1 j1 r1 ⟨e1, e2⟩ => ?_
  subst e1; subst e2
  have E1 := E.step s1 j1
  refine h P L σ H1 _ E1 fun lo n2 H2 s2 j2 h2 => ?_
  have E2 := E1.step s2 j2
  refine h2 P L σ H2 _ E2 fun hi n3 H3 s3 j3 k => ?_
  have E3 := E2.step s3 j3
  have s := (s1.trans s2).trans s3
  cases r1
  have hb : Same c.H0 H3 := fun o u e => by
    have hz : o ∉ c.B := fun q => by
      unfold Ctx.B at q
      rw [hB] at q
      cases q
    exact (hid_some.mp (E3.base o u (hid_some.mpr ⟨hz, e⟩))).2
  refine .inl ⟨_, _, rfl, same_l hb hS, fun p hp => ?_⟩
  have z := E3.newT (o := .lst (cutV (ns.map V.int) lo hi)) hp
  have ra : ∀ (H : Hp) (ns : List Int), RpAll c.K H (ns.map V.int) (ns.map D.int) := fun H ns => by
    induction ns with
    | nil => exact .nil
    | cons x ns ih => exact .cons (.int x) ih
  exact q _ _ n3 _ (s.trans z.1) z.2.1 (.lst (.inl (hid_at z.2.2)) ((ra _ ns).cut lo hi)) k
theorem we_neg {c : Ctx} {ρ : List SD} {n : Nat} {ta : TE} {Φ : Nat → D → Prop} (h : WE c ta ρ n fun n1 d => ∃ i, d = .int i ∧ Φ n1 (.int (-i))) : WE c (tUn (rU fun i => .int (-i)) ta) ρ n Φ := we_un (h.mono fun n1 d ⟨i, e, k⟩ O H x Q r no q => by
  subst e
  cases r
  exact ⟨i, rfl, q _ _ H (Same.refl _) (.int _) k⟩)
theorem fit_list {ds : List D} (h : ∀ d ∈ ds, fit d = true ∧ (dpy d).depth ≤ 60) : fit (.lst ds) = true ∧ fit (.tup ds) = true := by
  have hp : plainAll ds = true := by
    induction ds with
    | nil => rfl
    | cons x ds ih =>
      show (plain x && plainAll ds) = true
      rw [fit_p (h x List.mem_cons_self).1, ih fun d hd => h d (List.mem_cons_of_mem _ hd)]; rfl
  have hc : PyData.canLayAll0 (dpyAll ds) = true ∧ PyData.depthAll (dpyAll ds) ≤ 60 := by
    clear hp
    induction ds with
    | nil => exact ⟨rfl, Nat.zero_le _⟩
    | cons x ds ih =>
      obtain ⟨i1, i2⟩ := ih fun d hd => h d (List.mem_cons_of_mem _ hd)
      have hx := h x List.mem_cons_self
      refine ⟨?_, ?_⟩
      · show (PyData.canLay0 (dpy x) && PyData.canLayAll0 (dpyAll ds)) = true
        rw [SeqAt.canLay_of_shaped (fit_s hx.1), i1]; rfl
      · show max (PyData.depth (dpy x)) (PyData.depthAll (dpyAll ds)) ≤ 60
        exact Nat.max_le.mpr ⟨hx.2, i2⟩
  have sh : SeqAt.shaped (dpy (.lst ds)) = true ∧ SeqAt.shaped (dpy (.tup ds)) = true := by
    unfold SeqAt.shaped
    have d1 : (dpy (.lst ds)).depth = PyData.depthAll (dpyAll ds) + 1 := rfl
    have d2 : (dpy (.tup ds)).depth = PyData.depthAll (dpyAll ds) + 1 := rfl
    have c1 : (dpy (.lst ds)).canLay0 = PyData.canLayAll0 (dpyAll ds) := rfl
    have c2 : (dpy (.tup ds)).canLay0 = PyData.canLayAll0 (dpyAll ds) := rfl
    rw [d1, d2, c1, c2, hc.1]
    have : decide (PyData.depthAll (dpyAll ds) + 1 ≤ 64) = true := decide_eq_true (by omega)
    rw [this]; exact ⟨rfl, rfl⟩
  unfold fit
  have p1 : plain (.lst ds) = plainAll ds := rfl
  have p2 : plain (.tup ds) = plainAll ds := rfl
  rw [p1, p2, hp, sh.1, sh.2]; exact ⟨rfl, rfl⟩
theorem eq_self {d : D} (h : fit d = true) : eqD d d = true := SeqAt.eqv_refl _ (SeqAt.canLay_of_shaped (fit_s h))
theorem gN_go {i : Nat} {v : V} {σ : L2.St} {H : Hp} {Q : L2.St → Hp → Prop} (h : Q (σ.set i (some v)) H) : gName i v σ H Q := h
end L3
/-! L3m: instances: fields read, methods called, made. -/
namespace L3
open PySem L2
section
variable {K : PySem.W.Frag} {H : Hp}
theorem RpFs.look {f : Str} {d : D} : ∀ {vs : List (Str × V)} {ds : List (Str × D)}, RpFs K H vs ds → ds.lookup f = some d → ∃ v, vs.lookup f = some v ∧ Rp K H v d
  | _, _, .nil, e => by cases e
  | _, _, .cons (x := x) h r, e => by
    rw [List.lookup_cons] at e ⊢
    cases q : (f == x) with
    | true => rw [q] at e; cases e; exact ⟨_, rfl, h⟩
    | false => rw [q] at e; exact r.look e
theorem RpFs.none {f : Str} : ∀ {vs : List (Str × V)} {ds : List (Str × D)}, RpFs K H vs ds → ds.lookup f = none → vs.lookup f = none
  | _, _, .nil, _ => rfl
  | _, _, .cons (x := x) h r, e => by
    rw [List.lookup_cons] at e ⊢
    cases q : (f == x) with
    | true => rw [q] at e; cases e
    | false => rw [q] at e; exact r.none e
theorem RpFs.length : ∀ {vs : List (Str × V)} {ds : List (Str × D)}, RpFs K H vs ds → vs.length = ds.length
  | _, _, .nil => rfl
  | _, _, .cons _ r => by rw [List.length_cons, List.length_cons, r.length]
def putFD (f : Str) (d : D) : List (Str × D) → List (Str × D)
  | [] => [(f, d)]
  | (g, x) :: r => if g = f then (g, d) :: r else (g, x) :: putFD f d r
theorem RpFs.put {f : Str} {v : V} {d : D} (h : Rp K H v d) : ∀ {vs : List (Str × V)} {ds : List (Str × D)}, RpFs K H vs ds → RpFs K H (putF f v vs) (putFD f d ds)
  | _, _, .nil => .cons h .nil
  | _, _, .cons (x := x) h0 r => by
    show RpFs K H (if x = f then (x, v) :: _ else _) (if x = f then (x, d) :: _ else _)
    by_cases q : x = f
    · rw [if_pos q, if_pos q]; exact .cons h r
    · rw [if_neg q, if_neg q]; exact .cons h0 (r.put h)
end
section
variable {c : Ctx} {ρ : List SD} {n : Nat} {te to : TE} {as : TA} {Φ : Nat → D → Prop}
theorem we_fld {C : Addr} {f : Str} (cl : Cls c.K C) (na : NoAttr c.K C f) (h : WE c te ρ n fun n1 x => ∃ ds, x = .obj C ds ∧ ∃ d, ds.lookup f = some d ∧ Φ n1 d) : WE c (tFld c.K te f) ρ n Φ := fun P L σ H Q E q => by
  refine h P L σ H _ E fun x d n1 H1 s1 j1 r1 ⟨ds, e, d2, hl, k⟩ => ?_
  subst e
  cases r1 with
  | obj h1 hf =>
    obtain ⟨v, hv, rv⟩ := hf.look hl
    exact ⟨_, C, _, _, v, rfl, (hid_some.mp h1).2, cl, na, hv, q v d2 n1 H1 s1 j1 rv k⟩
theorem we_meth {C : Addr} {m : Str} {S : L3.Spec} {dvs : List V} {dds : List D} {XE : XK} (hd : ∀ H, RpAll c.K H dvs dds)
    (h : WE c to ρ n fun n1 x => ∃ ds, x = .obj C ds ∧ ds.lookup m = none ∧ WA c as ρ n1 fun n2 es => S c.bag n2 (.obj C ds :: (es ++ dds)) Φ) : WE c (tMeth C m (spD c.K S) dvs XE to as) ρ n Φ := fun P L σ H Q E q => by
  refine h P L σ H _ E fun x d n1 H1 s1 j1 r1 ⟨ds, e, hn, ha⟩ => ?_
  subst e
  have E1 := E.step s1 j1
  cases r1 with
  | obj h1 hf =>
    refine ⟨_, _, _, rfl, (hid_some.mp h1).2, hf.none hn, ?_⟩
    refine ha P L σ H1 _ E1 fun vs es n2 H2 s2 j2 r2 k => ?_
    have E2 := E1.step s2 j2
    refine ⟨L ++ c.O, c.bag, n2, _, Φ, fun b q hb => ⟨j2 b q hb, List.mem_append_right _ (E.bO b q hb).1, List.mem_append_right _ (E.bO b q hb).2.1, (E.bO b q hb).2.2⟩, E2.alLO, .cons ((Rp.obj h1 hf).mono (E1.sameLO s2)) (r2.append (hd _)), k, fun v d n3 H3 s3 j3 r3 k3 => ?_⟩
    exact q v d n3 H3 ((s1.trans s2).trans s3) j3 r3 k3
/-- what an __init__ promises, over data -/
abbrev SpecI := Option (Addr × Addr) → Nat → List D → (Nat → List (Str × D) → Prop) → Prop
def spI (K : PySem.W.Frag) (C : Addr) (S : SpecI) : Sp := fun vs H Q _ => ∃ (O : List Addr) (bag : Option (Addr × Addr)) (n : Nat) (ds : List D) (Φ : Nat → List (Str × D) → Prop) (p dx : Addr) (ws : List V),
  vs = .ref p :: ws ∧ H p = some (.ins C dx []) ∧ p ∉ O ∧ (∀ b q, bag = some (b, q) → BagOk b q n H ∧ b ∈ O ∧ q ∈ O ∧ q ≠ b) ∧ (∀ o ∈ O, H o ≠ none) ∧ RpAll K (hid (p :: O) H) ws ds ∧ S bag n ds Φ ∧
  ∀ fs ks n' H', Same (hid (p :: (bag.map (·.1)).toList) H) (hid (p :: (bag.map (·.1)).toList) H') → (∀ b q, bag = some (b, q) → BagOk b q n' H') → H' p = some (.ins C dx fs) → RpFs K (hid (p :: O) H') fs ks → Φ n' ks → Q .non H'
theorem we_make {C : Addr} {S : SpecI} {dvs : List V} {dds : List D} {XE : XK} (hd : ∀ H, RpAll c.K H dvs dds) (h : WA c as ρ n fun n1 ds => S c.bag n1 (ds ++ dds) fun n2 ks => Φ n2 (.obj C ks)) : WE c (tMake C (spI c.K C S) dvs XE as) ρ n Φ := fun P L σ H Q E q => by
  refine h P L σ H _ E fun vs ds n1 H1 s1 j1 r1 k => ?_
  have E1 := E.step s1 j1
  intro x dx nx ndx nex
  have xO : x ∉ L ++ c.O := E1.noO x nx
  have keep : ∀ a o, H1 a = some o → (upd (upd H1 dx (.own x)) x (.ins C dx [])) a = some o := fun a o e => by
    rw [upd_ne (fun z : a = x => by rw [z, nx] at e; cases e), upd_ne (fun z : a = dx => by rw [z, ndx] at e; cases e)]
    exact e
  have sm : Same (hid (L ++ c.O) H1) (hid (x :: (L ++ c.O)) (upd (upd H1 dx (.own x)) x (.ins C dx []))) := fun a o e => by
    obtain ⟨e1, e2⟩ := hid_some.mp e
    refine hid_some.mpr ⟨fun z => ?_, keep a o e2⟩
    rcases List.mem_cons.mp z with z | z
    · rw [z, nx] at e2; cases e2
    · exact e1 z
  refine ⟨L ++ c.O, c.bag, n1, ds ++ dds, _, x, dx, vs ++ dvs, rfl, upd_same, xO, fun b q hb => ⟨(j1 b q hb).move (fun o e => keep b o e) (fun o e => keep q o e), List.mem_append_right _ (E.bO b q hb).1, List.mem_append_right _ (E.bO b q hb).2.1, (E.bO b q hb).2.2⟩, fun o ho => ?_, (r1.mono sm).append (hd _), k, fun fs ks n2 H3 s3 j3 hx hf kk => ⟨rfl, ?_⟩⟩
  · cases e : H1 o with
    | none => exact absurd e (E1.alLO o ho)
    | some u => rw [keep o u e]; exact fun z => nomatch z
  · refine q (.ref x) (.obj C ks) n2 H3 (s1.trans fun a o e => ?_) j3 (.obj (dx := dx) (hid_some.mpr ⟨xO, hx⟩) (hf.mono (same_hid_sub fun a ha => List.mem_cons_of_mem _ ha))) kk
    obtain ⟨e1, e2⟩ := hid_some.mp e
    have ne : a ≠ x := fun z => by rw [z, nx] at e2; cases e2
    have z := s3 a o (hid_some.mpr ⟨fun z => by
      rcases List.mem_cons.mp z with z | z
      · exact ne z
      · exact e1 z, keep a o e2⟩)
    exact hid_some.mpr ⟨e1, (hid_some.mp z).2⟩
end
end L3
/-! L3n: __init__: field by field. -/
namespace L3
open PySem L2
abbrev bagB (bag : Option (Addr × Addr)) : List Addr := (bag.map (·.1)).toList
def flat : List SD → Bool
  | [] => true
  | .un :: r => flat r
  | .val _ :: r => flat r
  | _ :: _ => false
theorem Slots.flat {pr : Program} {wd : World} {K : PySem.W.Frag} {O : List Addr} {H : Hp} : ∀ {σ : List (Option V)} {ρ : List SD} {L : List Addr}, Slots pr wd K O H σ ρ L → L3.flat ρ = true → L = []
  | _, _, _, .nil, _ => rfl
  | _, _, _, .un s, h => Slots.flat s h
  | _, _, _, .val _ s, h => Slots.flat s h
  | _, _, _, .own _ _ _, h => by cases h
  | _, _, _, .dic _ _, h => by cases h
  | _, _, _, .dk _ _, h => by cases h
  | _, _, _, .tw _ _, h => by cases h
/-- any statement that is never reached -/
theorem ps_never {X : Cx} {st : Stmt} : PS X st (fun _ _ _ => False) := ⟨fun _ _ _ _ _ _ h => h.elim⟩
section
variable {P : Program} {w : World} {K : PySem.W.Frag} {mg : Str → Option Value} {base : Heap} {O : List Addr} {bag : Option (Addr × Addr)} {p C dx : Addr} {ρ : List SD} {n : Nat} {ks : List (Str × D)} {Φ : Nat → List (Str × D) → Prop} {te : TE} {ts us : TS} {f : Str}
def WN (P : Program) (w : World) (K : PySem.W.Frag) (O : List Addr) (bag : Option (Addr × Addr)) (p C dx : Addr) (ts : TS) (ρ : List SD) (n : Nat) (ks : List (Str × D)) (Φ : Nat → List (Str × D) → Prop) : Prop :=
  ∀ (H : Hp) (σ : List (Option V)) (fs : List (Str × V)) (Dn : Ends), H p = some (.ins C dx fs) → p ∉ O → RpFs K (hid (p :: O) H) fs ks → Env ⟨P, w, K, p :: O, bag, H⟩ (fun _ => none) [] n H σ ρ →
  (∀ σ' fs' ks' n' H', Same (hid (p :: bagB bag) H) (hid (p :: bagB bag) H') → (∀ b q, bag = some (b, q) → BagOk b q n' H') → H' p = some (.ins C dx fs') → RpFs K (hid (p :: O) H') fs' ks' → Φ n' ks' → Dn.nx σ' H') → ts Dn σ H
/-- one store -/
theorem wn_go {H : Hp} {σ : List (Option V)} {fs : List (Str × V)} {Q : List (Option V) → Hp → Prop} {Dn : Ends} (cl : Cls K C) (na : NoAttr K C f) (hl : ks.length < 1000) (hs : ρ[0]? = some (.val (.adr p)))
    (hp : H p = some (.ins C dx fs)) (pO : p ∉ O) (hf : RpFs K (hid (p :: O) H) fs ks) (E : Env ⟨P, w, K, p :: O, bag, H⟩ (fun _ => none) [] n H σ ρ) {Ψ : Nat → D → Prop} (h : WE ⟨P, w, K, p :: O, bag, H⟩ te ρ n Ψ)
    (k : ∀ y d n1 H3, Ψ n1 d → Same (hid (p :: bagB bag) H) (hid (p :: bagB bag) H3) → H3 p = some (.ins C dx (putF f y fs)) → RpFs K (hid (p :: O) H3) (putF f y fs) (putFD f d ks) → Env ⟨P, w, K, p :: O, bag, H3⟩ (fun _ => none) [] n1 H3 σ ρ → Dn.nx σ H3) : sFld K (tVar 0) te f Dn σ H := by
  refine h (fun _ => none) [] σ H _ E fun y d n1 H1 s1 j1 r1 kk => ?_
  have E1 := E.step s1 j1
  refine we_var (c := ⟨P, w, K, p :: O, bag, H⟩) (n := n1) (Φ := fun m z => m = n1 ∧ z = .adr p) hs ⟨rfl, rfl⟩ (fun _ => none) [] σ H1 _ E1 fun x d2 n2 H2 s2 j2 r2 ⟨e1, e2⟩ => ?_
  subst e1; subst e2
  cases r2
  have E2 := E1.step s2 j2
  have s12 := s1.trans s2
  have pB : p ∉ bagB bag := fun z => by
    obtain ⟨q, hq⟩ := (mem_B (c := ⟨P, w, K, p :: O, bag, H⟩)).mp z
    obtain ⟨xs, hx⟩ := (E.bag p q hq).lst
    rw [hp] at hx; cases hx
  have hp2 : H2 p = some (.ins C dx fs) := (hid_some.mp (s12 p _ (hid_some.mpr ⟨pB, hp⟩))).2
  have hb : ∀ b q, bag = some (b, q) → BagOk b q n2 (upd H2 p (.ins C dx (putF f y fs))) := fun b q e => by
    have B := E2.bag b q e
    refine B.move (fun o ho => ?_) (fun o ho => ?_)
    · rw [upd_ne (fun z : b = p => by obtain ⟨xs, hx⟩ := B.lst; rw [z, hp2] at hx; cases hx)]; exact ho
    · rw [upd_ne (fun z : q = p => by obtain ⟨_, _, _, _, hx, _⟩ := B; rw [z, hp2] at hx; cases hx)]; exact ho
  have hh : hid (p :: O) (upd H2 p (.ins C dx (putF f y fs))) = hid (p :: O) H2 := hid_upd_in List.mem_cons_self
  refine ⟨p, C, dx, fs, rfl, hp2, cl, na, by rw [hf.length]; exact hl, ?_⟩
  refine k y d n2 _ kk (fun a o e => ?_) upd_same ?_ ?_
  · obtain ⟨e1, e2⟩ := hid_some.mp e
    have ne : a ≠ p := fun z => e1 (z ▸ List.mem_cons_self)
    have z := s12 a o (hid_some.mpr ⟨fun z => e1 (List.mem_cons_of_mem _ z), e2⟩)
    exact hid_some.mpr ⟨e1, by rw [upd_ne ne]; exact (hid_some.mp z).2⟩
  · rw [hh]
    exact ((hf.mono (E.sameLO s12)).put (r1.mono (E1.sameLO s2)))
  · obtain ⟨Ls, sl, sb⟩ := E2.slots
    have eL : Ls = [] := List.eq_nil_of_sublist_nil sb
    subst eL
    exact { nd := List.nodup_nil, fresh := (fun l hl => nomatch hl), slots := ⟨[], sl.move (fun l hl => nomatch hl) (by show Same (hid (p :: O) H2) (hid (p :: O) _); rw [hh]; exact Same.refl _), List.Sublist.refl _⟩, lst := (fun l hl => nomatch hl), bag := hb, base := Same.refl _,
            pers := (fun _ _ e => nomatch e), bO := E2.bO, al := fun o ho => by
              by_cases z : o = p
              · rw [z, upd_same]; exact fun z => nomatch z
              · rw [upd_ne z]; exact E2.al o ho }
theorem wn_st (cl : Cls K C) (na : NoAttr K C f) (hl : ks.length < 1000) (hs : ρ[0]? = some (.val (.adr p))) (h : ∀ H0, WE ⟨P, w, K, p :: O, bag, H0⟩ te ρ n fun n1 d => Φ n1 (putFD f d ks)) : WN P w K O bag p C dx (sFld K (tVar 0) te f) ρ n ks Φ := fun H σ fs Dn hp pO hf E q =>
  wn_go (Q := fun _ _ => True) cl na hl hs hp pO hf E (h H) fun y d n1 H3 kk s hp3 hf3 E3 => q σ _ _ n1 H3 s E3.bag hp3 hf3 kk
theorem wn_seq (cl : Cls K C) (na : NoAttr K C f) (hl : ks.length < 1000) (hs : ρ[0]? = some (.val (.adr p))) (h : ∀ H0, WE ⟨P, w, K, p :: O, bag, H0⟩ te ρ n fun n1 d => WN P w K O bag p C dx us ρ n1 (putFD f d ks) Φ) : WN P w K O bag p C dx (tSeq (sFld K (tVar 0) te f) us) ρ n ks Φ := fun H σ fs Dn hp pO hf E q =>
  wn_go (Q := fun _ _ => True) (Dn := { Dn with nx := us Dn }) cl na hl hs hp pO hf E (h H) fun y d n1 H3 kk s hp3 hf3 E3 => kk H3 σ _ Dn hp3 pO hf3 E3 fun σ' fs' ks' n' H' s' b' hp' hf' kk' => q σ' fs' ks' n' H' (s.trans s') b' hp' hf' kk'
/-- statements ahead of the stores -/
theorem wn_pre (h : ∀ H0, WS ⟨P, w, K, p :: O, bag, H0⟩ ts ρ n { nx := fun n1 ρ1 => flat ρ1 = true ∧ WN P w K O bag p C dx us ρ1 n1 ks Φ, rt := fun _ _ => False }) : WN P w K O bag p C dx (tSeq ts us) ρ n ks Φ := fun H σ fs Dn hp pO hf E q => by
  refine h H (fun _ => none) [] σ H { Dn with nx := us Dn } E { nx := fun L n1 H1 σ1 ρ1 E1 ⟨hfl, hn⟩ => ?_, rt := fun _ _ _ _ _ _ _ h => h.elim, bk := fun _ _ _ _ _ _ h => h.elim, ct := fun _ _ _ _ _ _ h => h.elim }
  have pB : p ∉ bagB bag := fun z => by
    obtain ⟨q, hq⟩ := (mem_B (c := ⟨P, w, K, p :: O, bag, H⟩)).mp z
    obtain ⟨xs, hx⟩ := (E.bag p q hq).lst
    rw [hp] at hx; cases hx
  have hp1 : H1 p = some (.ins C dx fs) := (hid_some.mp (E1.base p _ (hid_some.mpr ⟨pB, hp⟩))).2
  have bO : ∀ a, a ∈ bagB bag → a ∈ p :: O := fun a ha => E.inO (show a ∈ (⟨P, w, K, p :: O, bag, H⟩ : Ctx).B from ha)
  have s0 : Same (hid (p :: O) H) (hid (p :: O) H1) := same_hid_more bO E1.base
  obtain ⟨Ls, sl, sb⟩ := E1.slots
  have eL := sl.flat hfl
  subst eL
  refine hn H1 σ1 fs Dn hp1 pO (hf.mono s0) ?_ fun σ' fs' ks' n' H' s' b' hp' hf' kk' => q σ' fs' ks' n' H' ((same_hid_more (fun a ha => List.mem_cons_of_mem _ ha) E1.base).trans s') b' hp' hf' kk'
  exact { nd := List.nodup_nil, fresh := (fun l hl => nomatch hl), slots := ⟨[], sl.move (fun l hl => nomatch hl) (same_hid_sub fun a ha => List.mem_append_right _ ha), List.Sublist.refl _⟩, lst := (fun l hl => nomatch hl), bag := E1.bag, base := Same.refl _,
          pers := (fun _ _ e => nomatch e), bO := E1.bO, al := E1.al }
/-- THE RULE for an __init__, over data -/
theorem fn_I {x qual : Str} {st : Stmt} {fa : Addr} {fd : FuncData} {N ps : List Str} {k : Nat} {S : SpecI} (F : Fun K x qual st fa fd) (sc : FnScope N ps (defScope st))
    (len : ∀ bag n ds Φ, S bag n ds Φ → ds.length + 1 = ps.length)
    (body : ∀ (cdv : Value) (A : Around) (outer : List PySem.Env) (s : Shared) (H : Hp) (E : XK) (O : List Addr) (bag : Option (Addr × Addr)) (n : Nat) (ds : List D) (Φ : Nat → List (Str × D) → Prop) (p dx : Addr), Room k (A.deeper (PyProof.Rows.envOfC qual (defScope st) s.heap.objs.size fa cdv)) → S bag n ds Φ →
      ∃ t, PSs (cxOf CX0 P w K mg base N qual (defScope st) fa cdv A outer s H E).nox (defBody st) t ∧ WN P w K O bag p C dx t (rho N (.adr p :: ds)) n [] Φ) :
    FnOk P w K mg base CX0 (k + 1) fa fd ps (spI K C S) := by
  refine F.ok sc (fun vs H Q E h => ?_) (fun cdv A outer s H vs Q E hr h => ?_)
  · obtain ⟨O, bag, n, ds, Φ, p, dx, ws, rfl, _, _, _, _, r, hS, _⟩ := h
    rw [List.length_cons, r.length]; exact len bag n ds Φ hS
  · obtain ⟨O, bag, n, ds, Φ, p, dx, ws, rfl, hp, pO, hb, hO, r, hS, q⟩ := h
    obtain ⟨t, ht, W⟩ := body cdv A outer s H E O bag n ds Φ p dx hr hS
    refine ⟨t, ht, W H _ [] _ hp pO .nil ?_ fun σ' fs' ks' n' H' s' b' hp' hf' kk' => q fs' ks' n' H' s' b' hp' hf' kk'⟩
    have r' : RpAll K (hid (p :: O) H) (.ref p :: ws) (.adr p :: ds) := .cons (.adr p) r
    have e : L2.start N (.ref p :: ws) = (.ref p :: ws).map some ++ List.replicate (N.length - (D.adr p :: ds).length) none := by unfold L2.start; rw [r'.length]
    exact { nd := List.nodup_nil, fresh := (fun l hl => nomatch hl), slots := ⟨[], by rw [e]; exact slots_start r', List.Sublist.refl _⟩, lst := (fun l hl => nomatch hl), bag := fun b q e => (hb b q e).1, base := Same.refl _,
            pers := (fun _ _ e => nomatch e), bO := fun b q e => ⟨List.mem_cons_of_mem _ (hb b q e).2.1, List.mem_cons_of_mem _ (hb b q e).2.2.1, (hb b q e).2.2.2⟩,
            al := fun o ho => by
              rcases List.mem_cons.mp ho with z | z
              · rw [z, hp]; exact fun z => nomatch z
              · exact hO o z }
end
end L3
/-! L3o: dicts with int and text keys: as data, as one's own. -/
namespace L3
open PySem L2
section
variable {c : Ctx} {ρ : List SD} {n : Nat} {ta tb te td ty tx : TE} {t u : TT} {as : TA} {Φ : Nat → D → Prop} {Ψ : Out} {ts us : TS}
def keyK : D → Option L2.Key
  | .int i => some (.inl i)
  | .str x => some (.inr x)
  | _ => none
theorem keyK_V {K : PySem.W.Frag} {H : Hp} {v : V} {d : D} {k : L2.Key} (r : Rp K H v d) (h : keyK d = some k) : v = kV k := by
  cases r <;> first | (cases h; rfl) | cases h
def lookK (kvs : List (L2.Key × D)) (k : L2.Key) : Option D := (kvs.find? fun kv => decide (kv.1 = k)).map (·.2)
def putKD (kvs : List (L2.Key × D)) (k : L2.Key) (d : D) : List (L2.Key × D) := if (kvs.any fun kv => decide (kv.1 = k)) = true then kvs.map (fun kv => if kv.1 = k then (kv.1, d) else kv) else kvs ++ [(k, d)]
section
variable {K : PySem.W.Frag} {H : Hp}
theorem RpKs.length : ∀ {xs : List (L2.Key × V)} {kvs : List (L2.Key × D)}, RpKs K H xs kvs → xs.length = kvs.length
  | _, _, .nil => rfl
  | _, _, .cons _ r => by rw [List.length_cons, List.length_cons, r.length]
theorem RpKs.look {k : L2.Key} : ∀ {xs : List (L2.Key × V)} {kvs : List (L2.Key × D)}, RpKs K H xs kvs → (∀ d, lookK kvs k = some d → ∃ v, valV xs k = some v ∧ Rp K H v d) ∧ (lookK kvs k = none → valV xs k = none)
  | _, _, .nil => ⟨fun d e => by simp [lookK] at e, fun _ => rfl⟩
  | _, _, .cons (x := x) h r => by
    obtain ⟨i1, i2⟩ := RpKs.look (k := k) r
    unfold lookK valV at *
    by_cases q : x = k
    · subst q
      simp only [List.find?_cons, decide_true]
      exact ⟨fun d e => by cases e; exact ⟨_, rfl, h⟩, fun e => by cases e⟩
    · simp only [List.find?_cons, decide_eq_false q]
      exact ⟨i1, i2⟩
theorem RpKs.any {k : L2.Key} : ∀ {xs : List (L2.Key × V)} {kvs : List (L2.Key × D)}, RpKs K H xs kvs → (xs.any fun kv => decide (kv.1 = k)) = kvs.any fun kv => decide (kv.1 = k)
  | _, _, .nil => rfl
  | _, _, .cons _ r => by rw [List.any_cons, List.any_cons, r.any]
theorem RpKs.repl {k : L2.Key} {v : V} {d : D} (h : Rp K H v d) : ∀ {xs : List (L2.Key × V)} {kvs : List (L2.Key × D)}, RpKs K H xs kvs → RpKs K H (xs.map fun kv => if kv.1 = k then (kv.1, v) else kv) (kvs.map fun kv => if kv.1 = k then (kv.1, d) else kv)
  | _, _, .nil => .nil
  | _, _, .cons (x := x) (v := v0) (vs := vs) (d := d0) (ds := ds) h0 r => by
    have ih := RpKs.repl (k := k) h r
    show RpKs K H ((if x = k then (x, v) else (x, v0)) :: _) ((if x = k then (x, d) else (x, d0)) :: _)
    by_cases q : x = k
    · rw [if_pos q, if_pos q]; exact .cons h ih
    · rw [if_neg q, if_neg q]; exact .cons h0 ih
theorem RpKs.snoc {k : L2.Key} {v : V} {d : D} (h : Rp K H v d) : ∀ {xs : List (L2.Key × V)} {kvs : List (L2.Key × D)}, RpKs K H xs kvs → RpKs K H (xs ++ [(k, v)]) (kvs ++ [(k, d)])
  | _, _, .nil => .cons h .nil
  | _, _, .cons h0 r => .cons h0 (RpKs.snoc h r)
theorem RpKs.put {k : L2.Key} {v : V} {d : D} (h : Rp K H v d) {xs : List (L2.Key × V)} {kvs : List (L2.Key × D)} (r : RpKs K H xs kvs) : RpKs K H (putK xs k v) (putKD kvs k d) := by
  unfold putK putKD
  rw [r.any]
  by_cases q : (kvs.any fun kv => decide (kv.1 = k)) = true
  · rw [if_pos q, if_pos q]; exact r.repl h
  · rw [if_neg q, if_neg q]; exact r.snoc h
end
theorem Slots.freezeK {pr : Program} {wd : World} {K : PySem.W.Frag} {O : List Addr} {H : Hp} {kvs : List (L2.Key × D)} : ∀ {σ : List (Option V)} {ρ : List SD} {L : List Addr} {i : Nat}, Slots pr wd K O H σ ρ L → ρ[i]? = some (.dk kvs) → ∃ L1 l L2 xs, L = L1 ++ l :: L2 ∧ H l = some (.dK xs) ∧ RpKs K (hid O H) xs kvs ∧
    ∀ O' , Same (hid O H) (hid O' H) → l ∉ O' → Slots pr wd K O' H σ (ρ.set i (.val (.dct kvs))) (L1 ++ L2)
  | _, _, _, _, .nil, e => by simp at e
  | _, _, _, 0, .un _, e => by simp at e
  | _, _, _, i + 1, .un s, e => by
    obtain ⟨L1, l, L2, xs, h1, h2, h3, h4⟩ := Slots.freezeK (i := i) s (by simpa using e)
    exact ⟨L1, l, L2, xs, h1, h2, h3, fun O' a b => .un (h4 O' a b)⟩
  | _, _, _, 0, .val _ _, e => by simp at e
  | _, _, _, i + 1, .val r s, e => by
    obtain ⟨L1, l, L2, xs, h1, h2, h3, h4⟩ := Slots.freezeK (i := i) s (by simpa using e)
    exact ⟨L1, l, L2, xs, h1, h2, h3, fun O' a b => .val (r.mono a) (h4 O' a b)⟩
  | _, _, _, 0, .own h r s, e => by simp at e
  | _, _, _, i + 1, .own h r s, e => by
    obtain ⟨L1, l, L2, xs, h1, h2, h3, h4⟩ := Slots.freezeK (i := i) s (by simpa using e)
    exact ⟨_ :: L1, l, L2, xs, by rw [h1]; rfl, h2, h3, fun O' a b => .own h (r.mono a) (h4 O' a b)⟩
  | _, _, _, 0, .dic _ _, e => by simp at e
  | _, _, _, 0, .dk ⟨xs, h, r⟩ s, e => by
    simp at e
    subst e
    exact ⟨[], _, _, _, rfl, h, r, fun O' a b => .val (.dct (.inl (by rw [hid_out b]; exact h)) (r.mono a)) (s.move (fun _ _ => rfl) a)⟩
  | _, _, _, 0, .tw h s, e => by simp at e
  | _, _, _, i + 1, .dic h s, e => by
    obtain ⟨L1, l, L2, xs, h1, h2, h3, h4⟩ := Slots.freezeK (i := i) s (by simpa using e)
    exact ⟨_ :: L1, l, L2, xs, by rw [h1]; rfl, h2, h3, fun O' a b => .dic (h.move rfl a) (h4 O' a b)⟩
  | _, _, _, i + 1, .dk h s, e => by
    obtain ⟨L1, l, L2, xs, h1, h2, h3, h4⟩ := Slots.freezeK (i := i) s (by simpa using e)
    exact ⟨_ :: L1, l, L2, xs, by rw [h1]; rfl, h2, h3, fun O' a b => .dk (h.move rfl a) (h4 O' a b)⟩
  | _, _, _, i + 1, .tw h s, e => by
    obtain ⟨L1, l, L2, xs, h1, h2, h3, h4⟩ := Slots.freezeK (i := i) s (by simpa using e)
    exact ⟨_ :: L1, l, L2, xs, by rw [h1]; rfl, h2, h3, fun O' a b => .tw (h.move rfl a) (h4 O' a b)⟩
theorem Env.freezeK {P : Hp} {L : List Addr} {n : Nat} {H : Hp} {σ : List (Option V)} {i : Nat} {kvs : List (L2.Key × D)} (E : Env c P L n H σ ρ) (h : ρ[i]? = some (.dk kvs)) : ∃ L', Env c P L' n H σ (ρ.set i (.val (.dct kvs))) ∧ L'.Sublist L := by
  obtain ⟨Ls, sl, sb⟩ := E.slots
  obtain ⟨L1, l, L2, xs, h1, h2, h3, h4⟩ := sl.freezeK h
  have lL : l ∈ L := sb.subset (by rw [h1]; simp)
  have sub : (L.erase l).Sublist L := List.erase_sublist
  have nl : l ∉ L.erase l := E.nd.not_mem_erase
  have sb2 : (L1 ++ L2).Sublist (L.erase l) := by
    have nd := sb.nodup E.nd
    rw [h1] at nd
    have n1 : l ∉ L1 := fun q => by
      have := (List.nodup_append.mp nd).2.2 l q l List.mem_cons_self
      exact this rfl
    have q : (Ls.erase l).Sublist (L.erase l) := sb.erase l
    rw [h1, List.erase_append_right _ n1, List.erase_cons_head] at q
    exact q
  have nO : l ∉ (L.erase l) ++ c.O := fun q => by
    rcases List.mem_append.mp q with q | q
    · exact nl q
    · exact (E.fresh l lL).2 q
  have se : Same (hid (L ++ c.O) H) (hid ((L.erase l) ++ c.O) H) := same_hid_sub fun a ha => by
    rcases List.mem_append.mp ha with q | q
    · exact List.mem_append_left _ (sub.subset q)
    · exact List.mem_append_right _ q
  exact ⟨L.erase l, { nd := sub.nodup E.nd, fresh := fun l hl => E.fresh l (sub.subset hl), slots := ⟨_, h4 _ se nO, sb2⟩, lst := fun l hl => E.lst l (sub.subset hl), base := E.base, pers := E.pers.trans se, bO := E.bO, al := E.al, bag := E.bag }, sub⟩
theorem Slots.dk_at {pr : Program} {wd : World} {K : PySem.W.Frag} {O : List Addr} {H : Hp} {kvs lvs : List (L2.Key × D)} : ∀ {σ : List (Option V)} {ρ : List SD} {L : List Addr} {i : Nat}, Slots pr wd K O H σ ρ L → L.Nodup → ρ[i]? = some (.dk kvs) → ∃ l, σ[i]? = some (some (.ref l)) ∧ l ∈ L ∧ KDict pr wd K O H l kvs ∧
    ∀ (o : HO), KDict pr wd K O (upd H l o) l lvs → hid O (upd H l o) = hid O H → Slots pr wd K O (upd H l o) σ (ρ.set i (.dk lvs)) L
  | _, _, _, _, .nil, _, e => by simp at e
  | _, _, _, 0, .un _, _, e => by simp at e
  | _, _, _, i + 1, .un s, nd, e => by
    obtain ⟨l, h1, h2, h3, h5⟩ := Slots.dk_at (i := i) s nd (by simpa using e)
    exact ⟨l, by simpa using h1, h2, h3, fun ys a b => .un (h5 ys a b)⟩
  | _, _, _, 0, .val _ _, _, e => by simp at e
  | _, _, _, i + 1, .val r s, nd, e => by
    obtain ⟨l, h1, h2, h3, h5⟩ := Slots.dk_at (i := i) s nd (by simpa using e)
    exact ⟨l, by simpa using h1, h2, h3, fun ys a b => .val (by rw [b]; exact r) (h5 ys a b)⟩
  | _, _, _, 0, .own _ _ _, _, e => by simp at e
  | _, _, _, i + 1, .own h r s, nd, e => by
    obtain ⟨l, h1, h2, h3, h5⟩ := Slots.dk_at (i := i) s (List.nodup_cons.mp nd).2 (by simpa using e)
    exact ⟨l, by simpa using h1, List.mem_cons_of_mem _ h2, h3, fun ys a b => .own ((upd_ne fun e => (List.nodup_cons.mp nd).1 (by rw [e]; exact h2)).trans h) (by rw [b]; exact r) (h5 ys a b)⟩
  | _, _, _, 0, .dic h s, nd, e => by simp at e
  | _, _, _, 0, .dk h s, nd, e => by
    simp at e
    subst e
    exact ⟨_, rfl, List.mem_cons_self, h, fun ys a b => .dk a (s.move (fun l hl => upd_ne fun e => (List.nodup_cons.mp nd).1 (by rw [← e]; exact hl)) (by rw [b]; exact Same.refl _))⟩
  | _, _, _, 0, .tw h s, nd, e => by simp at e
  | _, _, _, i + 1, .dic h s, nd, e => by
    obtain ⟨l, h1, h2, h3, h5⟩ := Slots.dk_at (i := i) s (List.nodup_cons.mp nd).2 (by simpa using e)
    exact ⟨l, by simpa using h1, List.mem_cons_of_mem _ h2, h3, fun ys a b => .dic (h.move (upd_ne fun e => (List.nodup_cons.mp nd).1 (by rw [e]; exact h2)) (by rw [b]; exact Same.refl _)) (h5 ys a b)⟩
  | _, _, _, i + 1, .dk h s, nd, e => by
    obtain ⟨l, h1, h2, h3, h5⟩ := Slots.dk_at (i := i) s (List.nodup_cons.mp nd).2 (by simpa using e)
    exact ⟨l, by simpa using h1, List.mem_cons_of_mem _ h2, h3, fun ys a b => .dk (h.move (upd_ne fun e => (List.nodup_cons.mp nd).1 (by rw [e]; exact h2)) (by rw [b]; exact Same.refl _)) (h5 ys a b)⟩
  | _, _, _, i + 1, .tw h s, nd, e => by
    obtain ⟨l, h1, h2, h3, h5⟩ := Slots.dk_at (i := i) s (List.nodup_cons.mp nd).2 (by simpa using e)
    exact ⟨l, by simpa using h1, List.mem_cons_of_mem _ h2, h3, fun ys a b => .tw (h.move (upd_ne fun e => (List.nodup_cons.mp nd).1 (by rw [e]; exact h2)) (by rw [b]; exact Same.refl _)) (h5 ys a b)⟩
theorem Env.dk_at {P : Hp} {L : List Addr} {n : Nat} {H : Hp} {σ : List (Option V)} {i : Nat} {kvs : List (L2.Key × D)} (E : Env c P L n H σ ρ) (h : ρ[i]? = some (.dk kvs)) : ∃ l, σ[i]? = some (some (.ref l)) ∧ l ∈ L ++ c.O ∧ KDict c.pr c.wd c.K (L ++ c.O) H l kvs ∧
    ∀ (o : HO) (lvs : List (L2.Key × D)), KDict c.pr c.wd c.K (L ++ c.O) (upd H l o) l lvs → Env c P L n (upd H l o) σ (ρ.set i (.dk lvs)) := by
  obtain ⟨Ls, sl, sb⟩ := E.slots
  have nd := sb.nodup E.nd
  obtain ⟨l, h1, h2, h3, _⟩ := sl.dk_at (lvs := kvs) nd h
  have lL := sb.subset h2
  have hm : l ∈ L ++ c.O := List.mem_append_left _ lL
  have hO : l ∉ c.O := (E.fresh l lL).2
  refine ⟨l, h1, hm, h3, fun o lvs hy => ?_⟩
  have bs : Same (hid c.B c.H0) (hid c.B (upd H l o)) := same_upd_old (E.fresh l lL).1 E.base
  obtain ⟨l', g1, g2, g3, g5⟩ := sl.dk_at (lvs := lvs) nd h
  rw [h1] at g1
  cases g1
  exact { nd := E.nd, fresh := E.fresh, slots := ⟨Ls, g5 o hy (hid_upd_in hm), sb⟩,
          lst := fun a ha => by
            by_cases e : a = l
            · exact ⟨_, by rw [e, upd_same]⟩
            · rw [upd_ne e]; exact E.lst a ha,
          bag := fun b q hb => (E.bag b q hb).move (fun o h => by rw [upd_ne fun e : b = l => hO (e ▸ (E.bO b q hb).1)]; exact h) fun o h => by rw [upd_ne fun e : q = l => hO (e ▸ (E.bO b q hb).2.1)]; exact h,
          base := bs, pers := by rw [hid_upd_in hm]; exact E.pers, bO := E.bO,
          al := fun o ho => by rw [upd_ne fun e : o = l => hO (e ▸ ho)]; exact E.al o ho }
/-! a dict as data -/
theorem we_dget1 (h : WE c td ρ n fun n1 x => ∃ kvs, x = .dct kvs ∧ WE c ty ρ n1 fun n2 y => ∃ k, keyK y = some k ∧ ∃ d, lookK kvs k = some d ∧ Φ n2 d) : WE c (tDGet td ty) ρ n Φ := fun P L σ H Q E q => by
  refine h P L σ H _ E fun x d n1 H1 s1 j1 r1 ⟨kvs, e, h1⟩ => ?_
  subst e
  have E1 := E.step s1 j1
  refine h1 P L σ H1 _ E1 fun y dy n2 H2 s2 j2 r2 ⟨k, hk, d, hl, kk⟩ => ?_
  have r3 := r1.mono (E1.sameLO s2)
  cases r3 with
  | dct hs rk =>
    obtain ⟨v, hv, rv⟩ := rk.look.1 d hl
    exact ⟨_, v, rfl, .inl ⟨_, k, same_rd same_hid hs, keyK_V r2 hk, hv.symm⟩, q v d n2 H2 (s1.trans s2) j2 rv kk⟩
theorem we_din (h : WE c ty ρ n fun n1 y => WE c td ρ n1 fun n2 x => ∃ kvs k, x = .dct kvs ∧ keyK y = some k ∧ Φ n2 (.bl (lookK kvs k).isSome)) : WE c (tDIn ty td) ρ n Φ := fun P L σ H Q E q => by
  refine h P L σ H _ E fun y dy n1 H1 s1 j1 r1 h1 => ?_
  have E1 := E.step s1 j1
  refine h1 P L σ H1 _ E1 fun x d n2 H2 s2 j2 r2 ⟨kvs, k, e, hk, kk⟩ => ?_
  subst e
  cases r2 with
  | dct hs rk =>
    refine ⟨_, _, rfl, .inl ⟨_, k, same_rd same_hid hs, keyK_V (r1.mono (E1.sameLO s2)) hk, rfl⟩, ?_⟩
    cases hl : lookK kvs k with
    | none => rw [rk.look.2 hl]; rw [hl] at kk; exact q _ _ n2 H2 (s1.trans s2) j2 (.bl _) kk
    | some d =>
      obtain ⟨v, hv, _⟩ := rk.look.1 d hl
      rw [hv]; rw [hl] at kk; exact q _ _ n2 H2 (s1.trans s2) j2 (.bl _) kk
theorem we_dnin (h : WE c ty ρ n fun n1 y => WE c td ρ n1 fun n2 x => ∃ kvs k, x = .dct kvs ∧ keyK y = some k ∧ Φ n2 (.bl (!(lookK kvs k).isSome))) : WE c (tDNotIn ty td) ρ n Φ := fun P L σ H Q E q => by
  refine h P L σ H _ E fun y dy n1 H1 s1 j1 r1 h1 => ?_
  have E1 := E.step s1 j1
  refine h1 P L σ H1 _ E1 fun x d n2 H2 s2 j2 r2 ⟨kvs, k, e, hk, kk⟩ => ?_
  subst e
  cases r2 with
  | dct hs rk =>
    refine ⟨_, _, rfl, .inl ⟨_, k, same_rd same_hid hs, keyK_V (r1.mono (E1.sameLO s2)) hk, rfl⟩, ?_⟩
    cases hl : lookK kvs k with
    | none => rw [rk.look.2 hl]; rw [hl] at kk; exact q _ _ n2 H2 (s1.trans s2) j2 (.bl _) kk
    | some d =>
      obtain ⟨v, hv, _⟩ := rk.look.1 d hl
      rw [hv]; rw [hl] at kk; exact q _ _ n2 H2 (s1.trans s2) j2 (.bl _) kk
theorem we_dget2 (h : WE c td ρ n fun n1 x => ∃ kvs, x = .dct kvs ∧ WE c ty ρ n1 fun n2 y => WE c tx ρ n2 fun n3 z => ∃ k, keyK y = some k ∧ Φ n3 ((lookK kvs k).getD z)) : WE c (tDGet2 td ty tx) ρ n Φ := fun P L σ H Q E q => by
  refine h P L σ H _ E fun x d n1 H1 s1 j1 r1 ⟨kvs, e, h1⟩ => ?_
  subst e
  have E1 := E.step s1 j1
  cases r1 with
  | dct hs0 rk0 =>
    have r1 : Rp c.K (hid (L ++ c.O) H1) (.ref _) (.dct kvs) := .dct hs0 rk0
    refine ⟨_, rfl, .inl ⟨_, same_rd same_hid hs0⟩, ?_⟩
    refine h1 P L σ H1 _ E1 fun y dy n2 H2 s2 j2 r2 h2 => ?_
    have E2 := E1.step s2 j2
    refine h2 P L σ H2 _ E2 fun z dz n3 H3 s3 j3 r3 ⟨k, hk, kk⟩ => ?_
    have r4 := (r1.mono (E1.sameLO s2)).mono (E2.sameLO s3)
    cases r4 with
    | dct hs rk =>
      refine ⟨_, .inl ⟨_, k, same_rd same_hid hs, keyK_V (r2.mono (E2.sameLO s3)) hk, rfl⟩, ?_⟩
      have s := (s1.trans s2).trans s3
      cases hl : lookK kvs k with
      | none => rw [rk.look.2 hl]; rw [hl] at kk; exact q _ _ n3 H3 s j3 r3 kk
      | some d =>
        obtain ⟨v, hv, rv⟩ := rk.look.1 d hl
        rw [hv]; rw [hl] at kk; exact q _ _ n3 H3 s j3 rv kk
section
variable {pr : Program} {wd : World} {K : PySem.W.Frag} {O : List Addr} {H : Hp} {σ : List (Option V)} {ρ : List SD} {L : List Addr}
theorem Slots.setK {l : Addr} {kvs : List (L2.Key × D)} (hx : KDict pr wd K O H l kvs) (hn : l ∉ L) : ∀ {σ : List (Option V)} {ρ : List SD} {L : List Addr} (i : Nat), i < ρ.length → Slots pr wd K O H σ ρ L →
    ∃ L1 L2 L3, Slots pr wd K O H (σ.set i (some (.ref l))) (ρ.set i (.dk kvs)) (L1 ++ l :: L2) ∧ L = L1 ++ L3 ∧ L2.Sublist L3
  | _, _, _, _, h, .nil => by simp at h
  | _, _, L, 0, _, .un s => ⟨[], L, L, .dk hx s, rfl, List.Sublist.refl _⟩
  | _, _, L, 0, _, .val _ s => ⟨[], L, L, .dk hx s, rfl, List.Sublist.refl _⟩
  | _, _, _ :: L, 0, _, .own _ _ s => ⟨[], L, _, .dk hx s, rfl, List.sublist_cons_self _ _⟩
  | _, _, _ :: L, 0, _, .dic _ s => ⟨[], L, _, .dk hx s, rfl, List.sublist_cons_self _ _⟩
  | _, _, _ :: L, 0, _, .dk _ s => ⟨[], L, _, .dk hx s, rfl, List.sublist_cons_self _ _⟩
  | _, _, _ :: L, 0, _, .tw _ s => ⟨[], L, _, .dk hx s, rfl, List.sublist_cons_self _ _⟩
  | _, _, _, i + 1, h, .un s => by
    obtain ⟨L1, L2, L3, h1, h2⟩ := Slots.setK hx hn i (by simpa using h) s
    exact ⟨L1, L2, L3, .un h1, h2⟩
  | _, _, _, i + 1, h, .val q s => by
    obtain ⟨L1, L2, L3, h1, h2⟩ := Slots.setK hx hn i (by simpa using h) s
    exact ⟨L1, L2, L3, .val q h1, h2⟩
  | _, _, _, i + 1, h, .own q r s => by
    obtain ⟨L1, L2, L3, h1, h2, h3⟩ := Slots.setK hx hn i (by simpa using h) s
    exact ⟨_ :: L1, L2, L3, .own q r h1, by rw [h2]; rfl, h3⟩
  | _, _, _, i + 1, h, .dic q s => by
    obtain ⟨L1, L2, L3, h1, h2, h3⟩ := Slots.setK hx hn i (by simpa using h) s
    exact ⟨_ :: L1, L2, L3, .dic q h1, by rw [h2]; rfl, h3⟩
  | _, _, _, i + 1, h, .dk q s => by
    obtain ⟨L1, L2, L3, h1, h2, h3⟩ := Slots.setK hx hn i (by simpa using h) s
    exact ⟨_ :: L1, L2, L3, .dk q h1, by rw [h2]; rfl, h3⟩
  | _, _, _, i + 1, h, .tw q s => by
    obtain ⟨L1, L2, L3, h1, h2, h3⟩ := Slots.setK hx hn i (by simpa using h) s
    exact ⟨_ :: L1, L2, L3, .tw q h1, by rw [h2]; rfl, h3⟩
end
/-! one's own -/
theorem ws_freezeK (i : Nat) {kvs : List (L2.Key × D)} (h : ρ[i]? = some (.dk kvs)) (k : WS c ts (ρ.set i (.val (.dct kvs))) n Ψ) : WS c ts ρ n Ψ := fun P L σ H Dn E A => by
  obtain ⟨L', E', _⟩ := E.freezeK h
  exact k P L' σ H Dn E' A
theorem wt_lookK (i : Nat) {Φ : Nat → Bool → Prop} {kvs : List (L2.Key × D)} (h : ρ[i]? = some (.dk kvs)) (k : WT c t (ρ.set i (.val (.dct kvs))) n Φ) : WT c t ρ n Φ := fun P L σ H Q E q => by
  obtain ⟨L', E', sub⟩ := E.freezeK h
  exact k P L' σ H Q E' fun b n1 H1 s1 j1 k1 => q b n1 H1 s1 j1 k1
theorem we_lookK (i : Nat) {kvs : List (L2.Key × D)} (h : ρ[i]? = some (.dk kvs)) (k : WE c te (ρ.set i (.val (.dct kvs))) n fun n1 d => scalar d = true ∧ Φ n1 d) : WE c te ρ n Φ := fun P L σ H Q E q => by
  obtain ⟨L', E', sub⟩ := E.freezeK h
  exact k P L' σ H Q E' fun v d n1 H1 s1 j1 r1 ⟨hs, k1⟩ => q v d n1 H1 s1 j1 (r1.scal hs) k1
/-- d[k], d one's own -/
theorem we_kget {i : Nat} {kvs : List (L2.Key × D)} (h0 : ρ[i]? = some (.dk kvs)) (h : WE c ty ρ n fun n2 y => ∃ k, keyK y = some k ∧ ∃ d, lookK kvs k = some d ∧ Φ n2 d) : WE c (tDGet (tVar i) ty) ρ n Φ := fun P L σ H Q E q => by
  obtain ⟨l, g1, _, _, _⟩ := E.dk_at h0
  refine ⟨.ref l, g1, ?_⟩
  refine h P L σ H _ E fun y dy n2 H2 s2 j2 r2 ⟨k, hk, d, hl, kk⟩ => ?_
  have E2 := E.step s2 j2
  obtain ⟨l', g1', _, ⟨xs, g2, g3⟩, _⟩ := E2.dk_at h0
  rw [g1] at g1'
  cases g1'
  obtain ⟨v, hv, rv⟩ := g3.look.1 d hl
  exact ⟨_, v, rfl, .inl ⟨_, k, .inl g2, keyK_V r2 hk, hv.symm⟩, q v d n2 H2 s2 j2 rv kk⟩
/-- d[k] = v, d one's own -/
theorem ws_kput {i : Nat} {kvs : List (L2.Key × D)} {tv : TE} (h0 : ρ[i]? = some (.dk kvs)) (hz : kvs.length < 16777216) (h : WE c tv ρ n fun n1 vd => WE c ty ρ n1 fun n2 y => ∃ k, keyK y = some k ∧ Ψ.nx n2 (ρ.set i (.dk (putKD kvs k vd)))) : WS c (sDPut (tVar i) ty tv) ρ n Ψ := fun P L σ H Dn E A => by
  refine h P L σ H _ E fun v vd n1 H1 s1 j1 r1 h1 => ?_
  have E1 := E.step s1 j1
  obtain ⟨l, g1, _, _, _⟩ := E1.dk_at h0
  refine ⟨.ref l, g1, ?_⟩
  refine h1 P L σ H1 _ E1 fun y dy n2 H2 s2 j2 r2 ⟨k, hk, kk⟩ => ?_
  have E2 := E1.step s2 j2
  obtain ⟨l', g1', gL, ⟨xs, g2, g3⟩, up⟩ := E2.dk_at h0
  rw [g1] at g1'
  cases g1'
  refine ⟨l, upd H2 l (.dK (putK xs k v)), rfl, .inl ⟨xs, k, g2, keyK_V r2 hk, by rw [g3.length, sizeLine_eq]; exact hz, rfl⟩, ?_⟩
  refine A.nx L n2 _ _ _ (up (.dK (putK xs k v)) (putKD kvs k vd) ⟨_, upd_same, ?_⟩) kk
  rw [hid_upd_in gL]
  exact g3.put (r1.mono (E1.sameLO s2))
theorem ws_knew {i : Nat} (hi : i < ρ.length) (k : Ψ.nx n (ρ.set i (.dk []))) : WS c (tAsg (tDNewK) (gName i)) ρ n Ψ := fun P L σ H Dn E A => by
  intro p hp
  have w := E.new hp
  have nin : p ∉ L ++ c.O := E.noO p hp
  have T := E.newT (o := .dK []) hp
  have E1 := E.step T.1 T.2.1
  have e0 : ∀ O, hid (p :: O) (upd H p (.dK [])) = hid O H := fun O => hid_new_in hp
  obtain ⟨Ls, sl0, sb⟩ := E.slots
  have sl : Slots c.pr c.wd c.K (p :: (L ++ c.O)) (upd H p (.dK [])) σ ρ Ls := sl0.move (fun l hl => upd_ne fun e => w.2.2 (e ▸ sb.subset hl)) (by rw [e0]; exact Same.refl _)
  have nd : KDict c.pr c.wd c.K (p :: (L ++ c.O)) (upd H p (.dK [])) p [] := ⟨[], upd_same, .nil⟩
  obtain ⟨L1, L2, L3, sl2, eL, sub⟩ := Slots.setK nd (fun q => w.2.2 (sb.subset q)) i hi sl
  have mv : ∃ Lp : List Addr, (L1 ++ p :: L2).Sublist Lp ∧ Lp.Perm (p :: L) := by
    rw [eL] at sb
    have h5 : (L1 ++ L2).Sublist L := (List.Sublist.append_left sub L1).trans sb
    exact ins_sub h5
  obtain ⟨Lp, sLp, pLp⟩ := mv
  have mem : ∀ a, a ∈ Lp ++ c.O ↔ a ∈ p :: (L ++ c.O) := fun a => by
    rw [show p :: (L ++ c.O) = (p :: L) ++ c.O from rfl, List.mem_append, List.mem_append, pLp.mem_iff]
  refine A.nx Lp n _ _ _ ?_ k
  exact { nd := pLp.nodup_iff.mpr (List.nodup_cons.mpr ⟨w.2.2, E.nd⟩),
          fresh := fun l hl => by
            rcases List.mem_cons.mp (pLp.mem_iff.mp hl) with q | q
            · subst q; exact ⟨w.1, w.2.1⟩
            · exact E.fresh l q,
          slots := ⟨_, sl2.move (fun _ _ => rfl) (same_hid_sub fun a ha => (mem a).mp ha), sLp⟩,
          lst := fun l hl => by
            rcases List.mem_cons.mp (pLp.mem_iff.mp hl) with q | q
            · subst q; exact ⟨_, upd_same⟩
            · exact E1.lst l q,
          bag := T.2.1,
          base := E1.base,
          pers := (E.pers.trans (by rw [e0]; exact Same.refl _)).trans (same_hid_sub fun a ha => (mem a).mp ha),
          bO := E.bO, al := E1.al }
/-- dict(d) -/
def rDictD (K : PySem.W.Frag) : List V → Hp → VK → Prop := fun vs H Q => ∃ (a : Addr) (xs : List (L2.Key × V)), vs = [.ref a] ∧ Rd H a (.dK xs) ∧ ∀ p, H p = none → Q (.ref p) (upd H p (.dK xs))
theorem rc_dict {K : PySem.W.Frag} {Φ : D → Prop} {kvs : List (L2.Key × D)} (k : Φ (.dct kvs)) : RCD K (rDictD K) [.dct kvs] Φ := fun O H xs Q rs no q => by
  obtain ⟨v, rfl, r⟩ := rs.one
  cases r with
  | dct hs rk => exact ⟨_, _, rfl, same_rd same_hid hs, fun p hp => q _ _ _ (same_upd_new hp) (.dct (.inl (hid_at (no p hp))) (rk.mono (rp_upd (K := K) hp))) k⟩
theorem x_dict {X : Cx} (K : PySem.W.Frag) : CallR X (.type "dict") (rDictD K) := by
  intro pins s σ H vs us Q I r h
  obtain ⟨a, xs, rfl, hr, q⟩ := h
  rw [Vals.ref1 r]
  exact d_copyOf I hr fun p s' hp I' => ⟨.ref p, _, I', rfl, q p hp⟩
end
end L3
/-! L3p: texts walked and searched, attributes within comprehensions, classes as callers see them. -/
namespace L3
open PySem L2
section
variable {X : Cx} (K : PySem.W.Frag)
theorem x_fld {e : Expr} {f : Str} {pos : Pos} {ta : TE} (h : PE X (.Attribute e f pos) (tFld X.K ta f)) (hK : X.K = K := by rfl) : PE X (.Attribute e f pos) (tFld K ta f) := hK ▸ h
theorem x_sfld {o value : Expr} {f : Str} {pos pos' : Pos} {ta tv : TE} (h : PS X (.Assign [.Attribute o f pos'] value pos) (sFld X.K ta tv f)) (hK : X.K = K := by rfl) : PS X (.Assign [.Attribute o f pos'] value pos) (sFld K ta tv f) := hK ▸ h
end
/-- a class as its callers see it -/
structure Mn (P : Program) (w : World) (K : PySem.W.Frag) (mg : Str → Option Value) (base : Heap) (x : Str) (k : Nat) (ps : List Str) (dv : List V) (dw : List Value) (S : SpecI) where
  C : Addr
  fI : Addr
  fd : FuncData
  M : Mk K C fI
  cl : Cls K C
  G : FnOk P w K mg base CX0 k fI fd ps (spI K C S)
  m : mg x = some (.ref C)
  b : Binds K fd ps dw
  v : Vals dv dw
section
variable {c : Ctx} {ρ : List SD} {n : Nat} {te : TE}
def signsD (z : Str) : List D := z.cps.toList.map fun u => D.str ⟨#[u]⟩
theorem it_s {z : Str} {P : Hp} : ItOk c (Its z) (signsD z) P where
  go := fun L n H σ ρ E i d hd => by
    unfold signsD at hd
    rw [List.getElem?_map] at hd
    have hi : i < z.cps.size := by
      refine Nat.lt_of_not_le fun q => ?_
      rw [List.getElem?_eq_none (by simpa using q)] at hd
      cases hd
    refine ⟨hi, fun x H' ⟨e, u, hu, hy⟩ => ?_⟩
    subst e; subst hy
    have hu' : z.cps.toList[i]? = some u := by rw [Array.getElem?_toList]; exact hu
    rw [hu'] at hd
    cases hd
    exact ⟨Same.refl _, .str _⟩
  stop := fun L n H σ ρ E i hi => by
    unfold signsD at hi
    show z.cps.size ≤ i
    simpa using hi
theorem wi_str {Φ : Nat → List D → Prop} (h : WE c te ρ n fun n1 d => ∃ z, d = .str z ∧ Φ n1 (signsD z)) : WI c (iStr te) ρ n Φ := fun P L σ H R E q => by
  refine h P L σ H _ E fun x d n1 H1 s1 j1 r1 ⟨z, e, k⟩ => ?_
  subst e
  cases r1
  exact ⟨z, rfl, q _ _ n1 H1 s1 j1 it_s k⟩
end
section
variable {K : PySem.W.Frag} {Φ : D → Prop}
theorem r2_sign {u : Nat} {z : Str} (k : Φ (.bl (decide (u ∈ z.cps.toList)))) : R2D K L2.rInS (.str ⟨#[u]⟩) (.str z) Φ := fun O H x y Q rx ry _ q => by
  cases rx; cases ry
  exact ⟨u, z, rfl, rfl, q _ _ H (Same.refl _) (.bl _) k⟩
theorem r2_notSign {u : Nat} {z : Str} (k : Φ (.bl (!decide (u ∈ z.cps.toList)))) : R2D K L2.rNotInS (.str ⟨#[u]⟩) (.str z) Φ := fun O H x y Q rx ry _ q => by
  cases rx; cases ry
  exact ⟨u, z, rfl, rfl, q _ _ H (Same.refl _) (.bl _) k⟩
end
end L3
/-! L3q: constants of the module, __init__ with defaults. -/
namespace L3
open PySem L2
section
variable {c : Ctx} {ρ : List SD} {n : Nat} {Φ : Nat → D → Prop}
theorem we_const {v : V} {d : D} (h : ∀ H, Rp c.K H v d) (k : Φ n d) : WE c (tC v) ρ n Φ := fun P L σ H Q E q => q v d n H (Same.refl _) E.bag (h _) k
end
section
variable {P : Program} {w : World} {K : PySem.W.Frag} {mg : Str → Option Value} {base : Heap} {C : Addr}
theorem fn_ID {x qual : Str} {st : Stmt} {fa : Addr} {fd : FuncData} {N ps : List Str} {k : Nat} {S : SpecI} {dvs : List V} (F : FunD K x qual (defArgs st) (defBody st) (defScope st) dvs [] fa fd) (sc : FnScope N ps (defScope st))
    (len : ∀ bag n ds Φ, S bag n ds Φ → ds.length + 1 = ps.length)
    (body : ∀ (cdv : Value) (A : Around) (outer : List PySem.Env) (s : Shared) (H : Hp) (E : XK) (O : List Addr) (bag : Option (Addr × Addr)) (n : Nat) (ds : List D) (Φ : Nat → List (Str × D) → Prop) (p dx : Addr), Room k (A.deeper (PyProof.Rows.envOfC qual (defScope st) s.heap.objs.size fa cdv)) → S bag n ds Φ →
      ∃ t, PSs (cxOf CX0 P w K mg base N qual (defScope st) fa cdv A outer s H E).nox (defBody st) t ∧ WN P w K O bag p C dx t (rho N (.adr p :: ds)) n [] Φ) :
    FnOk P w K mg base CX0 (k + 1) fa fd ps (spI K C S) := by
  refine F.ok sc (fun vs H Q E h => ?_) (fun cdv A outer s H vs Q E hr h => ?_)
  · obtain ⟨O, bag, n, ds, Φ, p, dx, ws, rfl, _, _, _, _, r, hS, _⟩ := h
    rw [List.length_cons, r.length]; exact len bag n ds Φ hS
  · obtain ⟨O, bag, n, ds, Φ, p, dx, ws, rfl, hp, pO, hb, hO, r, hS, q⟩ := h
    obtain ⟨t, ht, W⟩ := body cdv A outer s H E O bag n ds Φ p dx hr hS
    refine ⟨t, ht.nox, W H _ [] _ hp pO .nil ?_ fun σ' fs' ks' n' H' s' b' hp' hf' kk' => q fs' ks' n' H' s' b' hp' hf' kk'⟩
    have r' : RpAll K (hid (p :: O) H) (.ref p :: ws) (.adr p :: ds) := .cons (.adr p) r
    have e : L2.start N (.ref p :: ws) = (.ref p :: ws).map some ++ List.replicate (N.length - (D.adr p :: ds).length) none := by unfold L2.start; rw [r'.length]
    exact { nd := List.nodup_nil, fresh := (fun l hl => nomatch hl), slots := ⟨[], by rw [e]; exact slots_start r', List.Sublist.refl _⟩, lst := (fun l hl => nomatch hl), bag := fun b q e => (hb b q e).1, base := Same.refl _,
            pers := (fun _ _ e => nomatch e), bO := fun b q e => ⟨List.mem_cons_of_mem _ (hb b q e).2.1, List.mem_cons_of_mem _ (hb b q e).2.2.1, (hb b q e).2.2.2⟩,
            al := fun o ho => by
              rcases List.mem_cons.mp ho with z | z
              · rw [z, hp]; exact fun z => nomatch z
              · exact hO o z }
end
end L3
/-! L3r: enumerate over a tuple. -/
namespace PySem
open PySem.W PyProof.Rows
theorem l3_enum_new1 {v : Value} {o : Obj} {H : Heap → Prop} (B : Begins v o H) :
    Meets (Builtin.«enumerate.__new__» ⟨[.type "enumerate", v], []⟩) (fun _ R s => H s.heap ∧
      R (.ok (.ret (.ref (s.heap.push o).objs.size))) { s with heap := (s.heap.push o).push { cls := .type "enumerate", data := .fields #[.none, .bool false, .ref s.heap.objs.size, rawInt 0, .none, .none] } }) :=
  .of_wp fun prog w A R s h => by
    obtain ⟨hp, g, d, tk, os⟩ := s; obtain ⟨h1, h⟩ := h
    have hsub := sub_enumerate
    have q1 : ∀ {A' : Around} {E : Value → Shared → Prop} {Q : Value → Shared → Prop}, Q (.ref hp.objs.size) ⟨hp.push o, g, d, tk, os⟩ → wpAny (model prog w) A' (pyIter v) Q E ⟨hp, g, d, tk, os⟩ :=
      fun q => B.iter prog w _ _ ⟨hp, g, d, tk, os⟩ _ h1 q
    wp_walk using q1
    refine wpAny_stack_any fun st => wpAny_pure ?_
    split
    · rename_i c _ _ _ _ _
      cases (c == Value.type "enumerate")
      · wp_walk using q1
        exact ⟨_, rfl, h⟩
      · wp_walk using q1
        exact ⟨_, rfl, h⟩
    · wp_walk using q1
      exact ⟨_, rfl, h⟩
theorem l3_enum_call1 {prog : Program} {w : World} {A : Around} {E : Value → Shared → Prop} {s : Shared} {v : Value} {o : Obj} {H : Heap → Prop} {Q : Value → Shared → Prop} (B : Begins v o H) (h1 : H s.heap)
    (h : ∀ h', IsEnum h' (s.heap.objs.size + 1) s.heap.objs.size 0 .none → h'.get? s.heap.objs.size = some o → h'.objs.size = s.heap.objs.size + 2 →
      (∀ b o, s.heap.get? b = some o → h'.get? b = some o) → Q (.ref (s.heap.objs.size + 1)) { s with heap := h' }) :
    wpAny (model prog w) A (call (.type "enumerate") [v]) Q E s := by
  refine callType_new F.called_enumerate (by decide) (F.typeCall_enumerate_1 _) (F.newCall_enumerate_1 _) (fun obj => F.args_object_init_2 obj _) F.entry_enumerate_new
    (l3_enum_new1 B) ⟨h1, ?_⟩
  have hz : (s.heap.push o).objs.size = s.heap.objs.size + 1 := Heap.size_push ..
  show _ ∧ _
  rw [hz]
  have he : IsEnum ((s.heap.push o).push { cls := .type "enumerate", data := .fields #[.none, .bool false, .ref s.heap.objs.size, rawInt 0, .none, .none] }) (s.heap.objs.size + 1) s.heap.objs.size 0 .none := by
    have := Heap.get?_push_size (s.heap.push o) (o := { cls := .type "enumerate", data := .fields #[.none, .bool false, .ref s.heap.objs.size, rawInt 0, .none, .none] }) rfl
    rw [hz] at this; exact this
  refine ⟨⟨_, he, rfl⟩, h _ he (Heap.get?_push_of_some _ (Heap.get?_push_size _ B.free)) (by rw [Heap.size_push, hz]) fun b o x => Heap.get?_push_of_some _ (Heap.get?_push_of_some _ x)⟩
end PySem
/-! L3s: enumerate over a tuple. -/
namespace L2
open PySem PySem.Spec PyProof.Rows
def IteT (K : PySem.W.Frag) (a : Addr) (n0 : Nat) : It :=
  ⟨fun i H => ∃ (xs : List V) (x : V), SqT K H a xs ∧ xs.length = n0 ∧ xs[i]? = some x, fun i H v H' => ∃ T x, v = .ref T ∧ H T = none ∧ H' = upd H T (.tup [.int (i : Nat), x]) ∧ ∀ xs, SqT K H a xs → xs[i]? = some x, fun i H => ∃ xs : List V, SqT K H a xs ∧ xs.length = n0 ∧ n0 ≤ i⟩
theorem turn_enumT {P : Program} {w : World} {K : PySem.W.Frag} {elts : List Expr} {kk : Nat} {tpos : Pos} (a e it : Addr) (n0 : Nat) (hea : a ≠ it) :
    Turn P w K (.Tuple elts kk tpos) (IteT K a n0) [e, it] e (fun i h => (∃ old, IsEnum h e it ((i : Nat) : Int) old) ∧ h.IsTupleIter it a i ∧ e ≠ it ∧ a ≠ e ∧ i ≤ n0) where
  mem := by simp
  obj := fun i h st b hb => by
    obtain ⟨⟨old, he⟩, ⟨o, ho, hc, hd⟩, _⟩ := st
    have e' : b = e ∨ b = it := by simpa using hb
    rcases e' with z | z
    · rw [z]; exact ⟨_, he, fun v q => nomatch q⟩
    · rw [z]; exact ⟨o, ho, fun v q => by rw [hd] at q; cases q⟩
  keep := fun i h h' st k => let ⟨⟨old, he⟩, hi, hne⟩ := st; ⟨⟨old, k e (by simp) _ he⟩, hi.at fun o q => k it (by simp) o q, hne⟩
  item := by
    intro X hP hw hK hc i pins s σ H E I hf st hg
    subst hP hw hK
    obtain ⟨⟨old, he⟩, hit, hne, hae, hin⟩ := st
    obtain ⟨xs, x, hq, hxl, hx⟩ := hg
    obtain ⟨its, rv, p, hz⟩ := I.tuple hq
    obtain ⟨u, hu, ru⟩ := rv.get hx
    have hel : e < s.heap.objs.size := Heap.lt_size he
    have hil : it < s.heap.objs.size := by obtain ⟨_, q, _⟩ := hit; exact Heap.lt_size q
    have hlt : i < its.toArray.size := by
      have := (List.getElem?_eq_some_iff.mp hu).1
      simpa using this
    refine wpAny_pyNext_enum_itemC (Draws.tuple (show X.A.in1.handled = none from I.ok.hd hc) it a hea its.toArray) he ⟨hit, show s.heap.IsTuple a its.toArray from p⟩ hlt hne (by simp [hne, Ne.symm hae]) fun u' h' tk hP ho hit' hT hsz hk => ?_
    have eu : u' = u := by
      have h1 : its[i]? = some u' := by simpa using hP
      rw [hu] at h1
      exact (Option.some.inj h1).symm
    subst eu
    refine ⟨_, rfl, wpAny_letOwnedTupleGo_enum (s := { s with heap := h', toks := tk + 1 }) ho fun h'' he' sb => ?_⟩
    have hT2 : h''.get? s.heap.objs.size = some { cls := .type "tuple", data := .seq #[.int i tk, u'] } := (sb.2 _ (Nat.ne_of_gt hel)).trans hT
    have new : ObjOk X.prog X.w (upd H s.heap.objs.size (.tup [.int (i : Nat), x])) h'' s.heap.objs.size (.tup [.int (i : Nat), x]) :=
      ⟨by show 2 ≤ sizeLine; decide, [.int i tk, u'], .cons ⟨_, rfl⟩ (.cons ru .nil), ⟨_, hT2, rfl, _, rfl⟩⟩
    have I1 : Inv X pins σ (upd H s.heap.objs.size (.tup [.int (i : Nat), x])) { s with heap := h'', toks := tk + 1 } :=
      I.turnedNew (ch := [e, it]) (fun b ob hb q => (sb.2 b (fun z => hb (by simp [z]))).trans (hk b ob (fun z => hb (by simp [z])) (fun z => hb (by simp [z])) q)) hf (Nat.le_refl _) new
    refine ⟨.ref s.heap.objs.size, _, I1, rfl, ⟨_, x, rfl, I.hok.fresh (Nat.le_refl _), rfl, fun ys hy => by rw [I.tuple_inj hy hq]; exact hx⟩, ⟨⟨u', ?_⟩, hit'.1.at fun o q => (sb.2 it (Ne.symm hne)).trans q, hne, hae, by have := (List.getElem?_eq_some_iff.mp hx).1; omega⟩, fun b hb => ?_⟩
    · have e1 : ((i + 1 : Nat) : Int) = (i : Int) + 1 := by omega
      rw [e1]; exact he'
    · have hb' : b < s.heap.objs.size := by
        have e' : b = e ∨ b = it := by simpa using hb
        rcases e' with z | z
        · rw [z]; exact hel
        · rw [z]; exact hil
      rw [upd_ne (Nat.ne_of_lt hb')]
      exact (hf b hb).1
  done := by
    intro X hP hw hK hc i pins s σ H E I hf st hg
    subst hP hw hK
    obtain ⟨⟨old, he⟩, hit, hne, hae, hin⟩ := st
    obtain ⟨xs, hq, hxl, hx⟩ := hg
    obtain ⟨its, rv, p, hz⟩ := I.tuple hq
    obtain ⟨f0, f1, f2, f3, f4, f5⟩ := hf it (by simp)
    have hl := rv.length
    have ei : i = its.toArray.size := by simp; omega
    subst ei
    exact wpAny_pyNext_enum_endD (Draws.tuple (show X.A.in1.handled = none from I.ok.hd hc) it a hea its.toArray) he ⟨hit, show s.heap.IsTuple a its.toArray from p⟩ fun h' eb => ⟨rfl, I.turned (t' := s.toks) (fun b o hb q => eb b o hb q) f0 f1 f3 f4 f5⟩
  self := fun A i s Q E st h => let ⟨⟨_, he⟩, _⟩ := st; wpAny_pyIter_enum he h
def iEnumT (K : PySem.W.Frag) (ta : TA) : TI := fun σ H R => ta σ H fun vs H1 => ∃ a xs, vs = [.ref a] ∧ SqT K H1 a xs ∧ R (IteT K a xs.length) H1
theorem pi_enumT {X : Cx} {e : Expr} {ta : TA} {p pos tpos : Pos} {elts : List Expr} {kk : Nat} (hg : Gl X "enumerate") (hm : X.mg "enumerate" = none) (ha : PA X [e] ta) (hs : starEach [e] X.env = [(false, eval e X.env)] := by rfl) :
    PI X (.Tuple elts kk tpos) (.Call (.Name "enumerate" p) [e] [] pos) (iEnumT X.K ta) := by
  refine ⟨fun pins s σ H R I h => ?_⟩
  refine Call_ (ld_blt I hg hm boot_enumerate (PyProof.Rows.callWith_type1 (thn (ha.run pos pins s σ H _ I h) fun us s1 ⟨vs, H1, I1, r1, q1⟩ => ?_) hs rfl))
  obtain ⟨a, xs, ex, hq, q⟩ := q1
  subst ex
  cases r1 with
  | cons r rr =>
    cases rr
    cases r
    obtain ⟨its, rv, p', hz⟩ := I1.tuple hq
    have ipt : s1.heap.IsTuple a its.toArray := p'
    have hal : a < s1.heap.objs.size := by
      obtain ⟨o, ho, _⟩ := ipt
      exact Heap.lt_size ho
    refine l3_enum_call1 (begins_tuple a its.toArray) ipt fun h' he hit hsz hk => wpAny_pyIter_enum he ?_
    have I2 : Inv X pins σ H1 { s1 with heap := h' } := I1.kept (t' := s1.toks) hk
    refine ⟨s1.heap.objs.size + 1, [s1.heap.objs.size + 1, s1.heap.objs.size], _, _, H1, rfl, I2, turn_enumT a (s1.heap.objs.size + 1) s1.heap.objs.size xs.length (Nat.ne_of_lt hal), ⟨⟨.none, he⟩, ⟨_, hit, rfl, rfl⟩, Nat.succ_ne_self _, Nat.ne_of_lt (Nat.lt_succ_of_lt hal), Nat.zero_le _⟩, fun b hb => ?_, q⟩
    have e' : b = s1.heap.objs.size + 1 ∨ b = s1.heap.objs.size := by simpa using hb
    have hle : s1.heap.objs.size ≤ b := by
      rcases e' with z | z
      · rw [z]; exact Nat.le_add_right _ _
      · rw [z]; exact Nat.le_refl _
    exact I1.fpOk hle (I1.hok.fresh hle)
end L2
namespace L3
open PySem L2
theorem x_enumT {X : Cx} (K : PySem.W.Frag) {e : Expr} {ta : TA} {p pos tpos : Pos} {elts : List Expr} {kk : Nat} (hg : Gl X "enumerate") (hm : X.mg "enumerate" = none) (ha : PA X [e] ta) (hs : starEach [e] X.env = [(false, eval e X.env)] := by rfl) (hK : X.K = K := by rfl) :
    PI X (.Tuple elts kk tpos) (.Call (.Name "enumerate" p) [e] [] pos) (iEnumT K ta) := hK ▸ pi_enumT hg hm ha hs
section
variable {c : Ctx} {ρ : List SD} {n : Nat} {as : TA}
theorem it_eT {a : Addr} {xs : List V} {ds : List D} {P : Hp} (hs : SqT c.K P a xs) (hr : RpAll c.K P xs ds) : ItOk c (IteT c.K a xs.length) (enumD 0 ds) P where
  go := fun L n H σ ρ E i d hd => by
    obtain ⟨e, h1, h2⟩ := enumD_get hd
    obtain ⟨v, g1, g2⟩ := hr.get' h1
    subst h2
    refine ⟨⟨xs, v, same_t E.perR hs, rfl, g1⟩, fun x H' ⟨T, y, e1, e2, e3, hy⟩ => ?_⟩
    subst e1; subst e3
    have e4 := hy xs (same_t E.perR hs)
    rw [g1] at e4
    cases e4
    have sm := same_upd_new (o := .tup [.int (i : Nat), v]) e2
    refine ⟨sm, .tup (.inl (.inl (hid_at (E.noO T e2)))) (.cons ?_ (.cons ((g2.mono E.pers).mono (same_hid_of sm)) .nil))⟩
    have e5 : (0 : Int) + (i : Int) = (i : Int) := by omega
    rw [e5]
    exact .int _
  stop := fun L n H σ ρ E i hi => by
    rw [enumD_len] at hi
    exact ⟨xs, same_t E.perR hs, rfl, by rw [hr.length]; exact hi⟩
theorem wi_enumT {Φ : Nat → List D → Prop} (h : WA c as ρ n fun n1 ds => ∃ xs, ds = [.tup xs] ∧ Φ n1 (enumD 0 xs)) : WI c (iEnumT c.K as) ρ n Φ := fun P L σ H R E q => by
  refine h P L σ H _ E fun vs ds n1 H1 s1 j1 r1 ⟨xs, e, k⟩ => ?_
  subst e
  cases r1 with
  | cons r rr =>
    cases rr
    cases r with
    | tup hs ha => exact ⟨_, _, rfl, same_t same_hid hs, q _ _ n1 H1 s1 j1 (it_eT hs ha) k⟩
end
end L3
/-! L3t: a tuple whose head is a dict of one's own; more of own lists and dicts. -/
namespace L3
open PySem L2
theorem nd_rp {pr : Program} {wd : World} {K : PySem.W.Frag} {O O' : List Addr} {H : Hp} {l : Addr} {kvs : List (D × D)} (h : NDict pr wd K O H l kvs) (b : l ∉ O') (a : Same (hid O H) (hid O' H)) : Rp K (hid O' H) (.ref l) (.dcn pr wd kvs) := by
  obtain ⟨xs, h1, h2, h3⟩ := h
  exact .dcn (.inl (by rw [hid_out b]; exact h1)) h2 ((RpNs.of h3).mono a)
/-- the same, locked or not -/
def NDictR (pr : Program) (wd : World) (K : PySem.W.Frag) (O : List Addr) (H : Hp) (l : Addr) (kvs : List (D × D)) : Prop :=
  ∃ xs, Rd H l (.ext (DictBare pr wd xs l)) ∧ (l == sysModules) = false ∧ Paired (EntD K (hid O H)) kvs xs
theorem nd_ofR {X : Cx} {pins : List (Addr × Obj)} {σ : L2.St} {H : Hp} {s : Shared} (I : Inv X pins σ H s) {O : List Addr} {l : Addr} {kvs : List (D × D)} {xs : List (NestedKey × Addr × Value)} (h1 : Rd H l (.ext (DictBare X.prog X.w xs l))) (h3 : Paired (EntD X.K (hid O H)) kvs xs) : s.heap.DictOfH (nestedKind X.prog X.w) l xs := by
  obtain ⟨⟨o, es, ep, e1, e2, e3, e4, e5⟩, _⟩ := h1.ok I.hok
  refine ⟨o, es, ep, e1, e2, e3, e4, fun x hx => ?_, e5⟩
  have key : ∀ {kvs : List (D × D)} {xs : List (NestedKey × Addr × Value)}, Paired (EntD X.K (hid O H)) kvs xs → x ∈ xs → (nestedKind X.prog X.w).is s.heap x.1 x.2.1 := by
    intro kvs xs h
    induction h with
    | nil => intro q; cases q
    | cons h t ih =>
      intro q
      rcases List.mem_cons.mp q with q | q
      · subst q
        obtain ⟨g1, g2, g3, _⟩ := h
        obtain ⟨a, ea, eb, is⟩ := key_is I g3 rfl g1
        cases eb
        rw [g2]; exact is
      · exact ih q
  exact key h3 hx
theorem nd_of_rp {pr : Program} {wd : World} {K : PySem.W.Frag} {O : List Addr} {H : Hp} {x : V} {kvs : List (D × D)} (h : Rp K (hid O H) x (.dcn pr wd kvs)) : ∃ l, x = .ref l ∧ NDictR pr wd K O H l kvs := by
  cases h with
  | dcn h1 h2 h3 => exact ⟨_, rfl, _, same_rd same_hid h1, h2, h3.pair⟩
def rIxR (pr : Program) (wd : World) (K : PySem.W.Frag) : R2 := fun x y H Q => ∃ (O : List Addr) (l : Addr) (kvs : List (D × D)) (kd v : D), x = .ref l ∧ NDictR pr wd K O H l kvs ∧ Rp K (hid O H) y kd ∧ keyD kd = true ∧ lookD kvs kd = some v ∧ ∀ u, Rp K (hid O H) u v → Q u H
theorem x_ixR {X : Cx} (pr : Program) (wd : World) (K : PySem.W.Frag) (hu : X.A.units + 64 < cLine) (hp : X.prog = pr := by rfl) (hw : X.w = wd := by rfl) (hK : X.K = K := by rfl) : IxR X (rIxR pr wd K) := by
  subst hp; subst hw; subst hK
  intro value slice pins s σ H x y v u Q I rx ry h hs
  obtain ⟨O, l, kvs, kd, vd, rfl, ⟨xs, n1, n2, n3⟩, rk, hk, hl, q⟩ := h
  cases rx
  obtain ⟨a, ea, eb, is⟩ := key_is I rk ry hk
  subst eb
  have dd := nd_ofR I n1 n3
  rcases ent_look (kd := kd) n3 with ⟨e1, _⟩ | ⟨v', a', u', w, e1, e2, e3, e4⟩
  · rw [e1] at hl; cases hl
  · rw [e1] at hl
    cases hl
    refine PyProof.Rows.tail_any dd.typeIs PySem.F.slot_dict_getitem.lookup ?_ hs
    exact wpAny_getItem_heap (by show X.A.in1.units + 8 < cLine; have : X.A.in1.units = X.A.units + 1 := rfl; omega) is dd e2 ⟨w, H, I.tok _, e3, q w e4⟩
section
variable {c : Ctx} {ρ : List SD} {n : Nat} {ta tb te td ty tx : TE} {t u : TT} {as : TA} {Φ : Nat → D → Prop} {Ψ : Out} {ts us : TS}
/-! ### results that hang on no dict -/
theorem rd_drop {O : List Addr} {H : Hp} {l a : Addr} {x : HO} (hn : ¬ Rd H l x) (h : Rd (hid O H) a x) : Rd (hid (l :: O) H) a x := by
  have ne : a ≠ l := fun e => hn (by rw [← e]; exact same_rd same_hid h)
  have e : hid (l :: O) H a = hid O H a := by
    unfold hid
    by_cases q : a ∈ O
    · rw [if_pos q, if_pos (List.mem_cons_of_mem _ q)]
    · rw [if_neg q, if_neg (by simp [ne, q])]
  unfold Rd
  rw [e]; exact h
def NoSeq (H : Hp) (l : Addr) : Prop := ∀ xs, ¬ Rd H l (.lst xs) ∧ ¬ Rd H l (.tup xs)
theorem noSeq_ext {H : Hp} {l : Addr} {φ : Heap → Prop} (h : H l = some (.ext φ)) : NoSeq H l := fun xs => by
  constructor <;> rintro (q | ⟨o, q⟩) <;> (rw [h] at q; cases q)
theorem noSeq_dK {H : Hp} {l : Addr} {kvs : List (L2.Key × V)} (h : H l = some (.dK kvs)) : NoSeq H l := fun xs => by
  constructor <;> rintro (q | ⟨o, q⟩) <;> (rw [h] at q; cases q)
mutual
theorem rp_drop {K : PySem.W.Frag} {O : List Addr} {H : Hp} {l : Addr} (hl : NoSeq H l) : ∀ (d : D) (v : V), Rp K (hid O H) v d → plain d = true → Rp K (hid (l :: O) H) v d
  | .non, _, h, _ => by cases h; exact .non
  | .bl b, _, h, _ => by cases h; exact .bl b
  | .int i, _, h, _ => by cases h; exact .int i
  | .str x, _, h, _ => by cases h; exact .str x
  | .lst xs, _, h, p => by
    cases h with
    | lst h r => exact .lst (rd_drop (hl _).1 h) (rp_drops hl xs _ r p)
  | .tup xs, _, h, p => by
    cases h with
    | tup h r =>
      refine .tup ?_ (rp_drops hl xs _ r p)
      rcases h with h | h
      · exact .inl (rd_drop (hl _).2 h)
      · exact .inr h
  | .obj _ _, _, _, p => by cases p
  | .adr _, _, _, p => by cases p
  | .ty _, _, _, p => by cases p
  | .dct _, _, _, p => by cases p
  | .dcn _ _ _, _, _, p => by cases p
theorem rp_drops {K : PySem.W.Frag} {O : List Addr} {H : Hp} {l : Addr} (hl : NoSeq H l) : ∀ (ds : List D) (vs : List V), RpAll K (hid O H) vs ds → plainAll ds = true → RpAll K (hid (l :: O) H) vs ds
  | [], _, h, _ => by cases h; exact .nil
  | x :: xs, _, h, p => by
    cases h with
    | cons h r =>
      have p' : (plain x && plainAll xs) = true := p
      rw [Bool.and_eq_true] at p'
      exact .cons (rp_drop hl x _ h p'.1) (rp_drops hl xs _ r p'.2)
end
theorem rp_back {K : PySem.W.Frag} {L L' O : List Addr} {H : Hp} {l : Addr} {v : V} {d : D} (hl : NoSeq H l) (hL : ∀ a ∈ L, a = l ∨ a ∈ L') (r : Rp K (hid (L' ++ O) H) v d) (p : plain d = true) : Rp K (hid (L ++ O) H) v d :=
  (rp_drop hl d v r p).mono (same_hid_sub fun a ha => by
    rcases List.mem_append.mp ha with q | q
    · rcases hL a q with e | e
      · rw [e]; exact List.mem_cons_self
      · exact List.mem_cons_of_mem _ (List.mem_append_left _ e)
    · exact List.mem_cons_of_mem _ (List.mem_append_right _ q))
theorem Slots.freezeW {pr : Program} {wd : World} {K : PySem.W.Frag} {O : List Addr} {H : Hp} {l : Addr} {kvs : List (D × D)} {ds : List D} : ∀ {σ : List (Option V)} {ρ : List SD} {L : List Addr} {i : Nat}, Slots pr wd K O H σ ρ L → ρ[i]? = some (.tw l kvs ds) → ∃ L1 L2 t, L = L1 ++ l :: L2 ∧ TDict pr wd K O H t l kvs ds ∧
    ∀ O' , Same (hid O H) (hid O' H) → l ∉ O' → Slots pr wd K O' H σ (ρ.set i (.val (.tup (.dcn pr wd kvs :: ds)))) (L1 ++ L2)
  | _, _, _, _, .nil, e => by simp at e
  | _, _, _, 0, .un _, e => by simp at e
  | _, _, _, i + 1, .un s, e => by
    obtain ⟨L1, L2, t, h1, h2, h4⟩ := Slots.freezeW (i := i) s (by simpa using e)
    exact ⟨L1, L2, t, h1, h2, fun O' a b => .un (h4 O' a b)⟩
  | _, _, _, 0, .val _ _, e => by simp at e
  | _, _, _, i + 1, .val r s, e => by
    obtain ⟨L1, L2, t, h1, h2, h4⟩ := Slots.freezeW (i := i) s (by simpa using e)
    exact ⟨L1, L2, t, h1, h2, fun O' a b => .val (r.mono a) (h4 O' a b)⟩
  | _, _, _, 0, .own h r s, e => by simp at e
  | _, _, _, i + 1, .own h r s, e => by
    obtain ⟨L1, L2, t, h1, h2, h4⟩ := Slots.freezeW (i := i) s (by simpa using e)
    exact ⟨_ :: L1, L2, t, by rw [h1]; rfl, h2, fun O' a b => .own h (r.mono a) (h4 O' a b)⟩
  | _, _, _, 0, .dic _ _, e => by simp at e
  | _, _, _, 0, .dk _ s, e => by simp at e
  | _, _, _, 0, .tw ⟨vs, h, r, n⟩ s, e => by
    simp at e
    obtain ⟨rfl, rfl, rfl⟩ := e
    exact ⟨[], _, _, rfl, ⟨vs, h, r, n⟩, fun O' a b => .val (.tup (same_t a h) (.cons (nd_rp n b a) (r.mono a))) (s.move (fun _ _ => rfl) a)⟩
  | _, _, _, i + 1, .dic h s, e => by
    obtain ⟨L1, L2, t, h1, h2, h4⟩ := Slots.freezeW (i := i) s (by simpa using e)
    exact ⟨_ :: L1, L2, t, by rw [h1]; rfl, h2, fun O' a b => .dic (h.move rfl a) (h4 O' a b)⟩
  | _, _, _, i + 1, .dk h s, e => by
    obtain ⟨L1, L2, t, h1, h2, h4⟩ := Slots.freezeW (i := i) s (by simpa using e)
    exact ⟨_ :: L1, L2, t, by rw [h1]; rfl, h2, fun O' a b => .dk (h.move rfl a) (h4 O' a b)⟩
  | _, _, _, i + 1, .tw h s, e => by
    obtain ⟨L1, L2, t, h1, h2, h4⟩ := Slots.freezeW (i := i) s (by simpa using e)
    exact ⟨_ :: L1, L2, t, by rw [h1]; rfl, h2, fun O' a b => .tw (h.move rfl a) (h4 O' a b)⟩
theorem Env.freezeW {P : Hp} {L : List Addr} {n : Nat} {H : Hp} {σ : List (Option V)} {i : Nat} {l : Addr} {kvs : List (D × D)} {ds : List D} (E : Env c P L n H σ ρ) (h : ρ[i]? = some (.tw l kvs ds)) : ∃ L', Env c P L' n H σ (ρ.set i (.val (.tup (.dcn c.pr c.wd kvs :: ds)))) ∧ L'.Sublist L ∧ (∀ a ∈ L, a = l ∨ a ∈ L') ∧ l ∈ L ∧ ∃ xs, H l = some (.ext (DictBare c.pr c.wd xs l)) := by
  obtain ⟨Ls, sl, sb⟩ := E.slots
  obtain ⟨L1, L2, t, h1, ⟨vs, q1, q2, xs, h2, q3⟩, h4⟩ := sl.freezeW h
  have lL : l ∈ L := sb.subset (by rw [h1]; simp)
  have sub : (L.erase l).Sublist L := List.erase_sublist
  have nl : l ∉ L.erase l := E.nd.not_mem_erase
  have sb2 : (L1 ++ L2).Sublist (L.erase l) := by
    have nd := sb.nodup E.nd
    rw [h1] at nd
    have n1 : l ∉ L1 := fun q => by
      have := (List.nodup_append.mp nd).2.2 l q l List.mem_cons_self
      exact this rfl
    have q : (Ls.erase l).Sublist (L.erase l) := sb.erase l
    rw [h1, List.erase_append_right _ n1, List.erase_cons_head] at q
    exact q
  have nO : l ∉ (L.erase l) ++ c.O := fun q => by
    rcases List.mem_append.mp q with q | q
    · exact nl q
    · exact (E.fresh l lL).2 q
  have se : Same (hid (L ++ c.O) H) (hid ((L.erase l) ++ c.O) H) := same_hid_sub fun a ha => by
    rcases List.mem_append.mp ha with q | q
    · exact List.mem_append_left _ (sub.subset q)
    · exact List.mem_append_right _ q
  exact ⟨L.erase l, { nd := sub.nodup E.nd, fresh := fun l hl => E.fresh l (sub.subset hl), slots := ⟨_, h4 _ se nO, sb2⟩, lst := fun l hl => E.lst l (sub.subset hl), base := E.base, pers := E.pers.trans se, bO := E.bO, al := E.al, bag := E.bag }, sub, fun a ha => by by_cases q : a = l; exact .inl q; exact .inr ((List.mem_erase_of_ne q).mpr ha), lL, _, h2⟩
theorem Env.freezeK2 {P : Hp} {L : List Addr} {n : Nat} {H : Hp} {σ : List (Option V)} {i : Nat} {kvs : List (L2.Key × D)} (E : Env c P L n H σ ρ) (h : ρ[i]? = some (.dk kvs)) : ∃ L', Env c P L' n H σ (ρ.set i (.val (.dct kvs))) ∧ L'.Sublist L ∧ ∃ l xs, (∀ a ∈ L, a = l ∨ a ∈ L') ∧ l ∈ L ∧ H l = some (.dK xs) := by
  obtain ⟨Ls, sl, sb⟩ := E.slots
  obtain ⟨L1, l, L2, xs, h1, h2, h3, h4⟩ := sl.freezeK h
  have lL : l ∈ L := sb.subset (by rw [h1]; simp)
  have sub : (L.erase l).Sublist L := List.erase_sublist
  have nl : l ∉ L.erase l := E.nd.not_mem_erase
  have sb2 : (L1 ++ L2).Sublist (L.erase l) := by
    have nd := sb.nodup E.nd
    rw [h1] at nd
    have n1 : l ∉ L1 := fun q => by
      have := (List.nodup_append.mp nd).2.2 l q l List.mem_cons_self
      exact this rfl
    have q : (Ls.erase l).Sublist (L.erase l) := sb.erase l
    rw [h1, List.erase_append_right _ n1, List.erase_cons_head] at q
    exact q
  have nO : l ∉ (L.erase l) ++ c.O := fun q => by
    rcases List.mem_append.mp q with q | q
    · exact nl q
    · exact (E.fresh l lL).2 q
  have se : Same (hid (L ++ c.O) H) (hid ((L.erase l) ++ c.O) H) := same_hid_sub fun a ha => by
    rcases List.mem_append.mp ha with q | q
    · exact List.mem_append_left _ (sub.subset q)
    · exact List.mem_append_right _ q
  exact ⟨L.erase l, { nd := sub.nodup E.nd, fresh := fun l hl => E.fresh l (sub.subset hl), slots := ⟨_, h4 _ se nO, sb2⟩, lst := fun l hl => E.lst l (sub.subset hl), base := E.base, pers := E.pers.trans se, bO := E.bO, al := E.al, bag := E.bag }, sub, l, xs, fun a ha => by by_cases q : a = l; exact .inl q; exact .inr ((List.mem_erase_of_ne q).mpr ha), lL, h2⟩
theorem Slots.tw_at {pr : Program} {wd : World} {K : PySem.W.Frag} {O : List Addr} {H : Hp} {l : Addr} {kvs lvs : List (D × D)} {ds : List D} : ∀ {σ : List (Option V)} {ρ : List SD} {L : List Addr} {i : Nat}, Slots pr wd K O H σ ρ L → L.Nodup → ρ[i]? = some (.tw l kvs ds) → ∃ t, σ[i]? = some (some (.ref t)) ∧ l ∈ L ∧ TDict pr wd K O H t l kvs ds ∧
    ∀ (o : HO), NDict pr wd K O (upd H l o) l lvs → hid O (upd H l o) = hid O H → Slots pr wd K O (upd H l o) σ (ρ.set i (.tw l lvs ds)) L
  | _, _, _, _, .nil, _, e => by simp at e
  | _, _, _, 0, .un _, _, e => by simp at e
  | _, _, _, i + 1, .un s, nd, e => by
    obtain ⟨t, h1, h2, h3, h5⟩ := Slots.tw_at (i := i) s nd (by simpa using e)
    exact ⟨t, by simpa using h1, h2, h3, fun ys a b => .un (h5 ys a b)⟩
  | _, _, _, 0, .val _ _, _, e => by simp at e
  | _, _, _, i + 1, .val r s, nd, e => by
    obtain ⟨t, h1, h2, h3, h5⟩ := Slots.tw_at (i := i) s nd (by simpa using e)
    exact ⟨t, by simpa using h1, h2, h3, fun ys a b => .val (by rw [b]; exact r) (h5 ys a b)⟩
  | _, _, _, 0, .own _ _ _, _, e => by simp at e
  | _, _, _, i + 1, .own h r s, nd, e => by
    obtain ⟨t, h1, h2, h3, h5⟩ := Slots.tw_at (i := i) s (List.nodup_cons.mp nd).2 (by simpa using e)
    exact ⟨t, by simpa using h1, List.mem_cons_of_mem _ h2, h3, fun ys a b => .own ((upd_ne fun e => (List.nodup_cons.mp nd).1 (by rw [e]; exact h2)).trans h) (by rw [b]; exact r) (h5 ys a b)⟩
  | _, _, _, 0, .dic h s, nd, e => by simp at e
  | _, _, _, 0, .dk h s, nd, e => by simp at e
  | _, _, _, 0, .tw ⟨vs, h, r, q⟩ s, nd, e => by
    simp at e
    obtain ⟨rfl, rfl, rfl⟩ := e
    exact ⟨_, rfl, List.mem_cons_self, ⟨vs, h, r, q⟩, fun ys a b => .tw ⟨vs, by rw [b]; exact h, by rw [b]; exact r, a⟩ (s.move (fun l hl => upd_ne fun e => (List.nodup_cons.mp nd).1 (by rw [← e]; exact hl)) (by rw [b]; exact Same.refl _))⟩
  | _, _, _, i + 1, .dic h s, nd, e => by
    obtain ⟨t, h1, h2, h3, h5⟩ := Slots.tw_at (i := i) s (List.nodup_cons.mp nd).2 (by simpa using e)
    exact ⟨t, by simpa using h1, List.mem_cons_of_mem _ h2, h3, fun ys a b => .dic (h.move (upd_ne fun e => (List.nodup_cons.mp nd).1 (by rw [e]; exact h2)) (by rw [b]; exact Same.refl _)) (h5 ys a b)⟩
  | _, _, _, i + 1, .dk h s, nd, e => by
    obtain ⟨t, h1, h2, h3, h5⟩ := Slots.tw_at (i := i) s (List.nodup_cons.mp nd).2 (by simpa using e)
    exact ⟨t, by simpa using h1, List.mem_cons_of_mem _ h2, h3, fun ys a b => .dk (h.move (upd_ne fun e => (List.nodup_cons.mp nd).1 (by rw [e]; exact h2)) (by rw [b]; exact Same.refl _)) (h5 ys a b)⟩
  | _, _, _, i + 1, .tw h s, nd, e => by
    obtain ⟨t, h1, h2, h3, h5⟩ := Slots.tw_at (i := i) s (List.nodup_cons.mp nd).2 (by simpa using e)
    exact ⟨t, by simpa using h1, List.mem_cons_of_mem _ h2, h3, fun ys a b => .tw (h.move (upd_ne fun e => (List.nodup_cons.mp nd).1 (by rw [e]; exact h2)) (by rw [b]; exact Same.refl _)) (h5 ys a b)⟩
section
variable {pr : Program} {wd : World} {K : PySem.W.Frag} {O : List Addr} {H : Hp} {σ : List (Option V)} {ρ : List SD} {L : List Addr}
theorem Slots.setW {t l : Addr} {kvs : List (D × D)} {ds : List D} (hx : TDict pr wd K O H t l kvs ds) (hn : l ∉ L) : ∀ {σ : List (Option V)} {ρ : List SD} {L : List Addr} (i : Nat), i < ρ.length → Slots pr wd K O H σ ρ L →
    ∃ L1 L2 L3, Slots pr wd K O H (σ.set i (some (.ref t))) (ρ.set i (.tw l kvs ds)) (L1 ++ l :: L2) ∧ L = L1 ++ L3 ∧ L2.Sublist L3
  | _, _, _, _, h, .nil => by simp at h
  | _, _, L, 0, _, .un s => ⟨[], L, L, .tw hx s, rfl, List.Sublist.refl _⟩
  | _, _, L, 0, _, .val _ s => ⟨[], L, L, .tw hx s, rfl, List.Sublist.refl _⟩
  | _, _, _ :: L, 0, _, .own _ _ s => ⟨[], L, _, .tw hx s, rfl, List.sublist_cons_self _ _⟩
  | _, _, _ :: L, 0, _, .dic _ s => ⟨[], L, _, .tw hx s, rfl, List.sublist_cons_self _ _⟩
  | _, _, _ :: L, 0, _, .dk _ s => ⟨[], L, _, .tw hx s, rfl, List.sublist_cons_self _ _⟩
  | _, _, _ :: L, 0, _, .tw _ s => ⟨[], L, _, .tw hx s, rfl, List.sublist_cons_self _ _⟩
  | _, _, _, i + 1, h, .un s => by
    obtain ⟨L1, L2, L3, h1, h2⟩ := Slots.setW hx hn i (by simpa using h) s
    exact ⟨L1, L2, L3, .un h1, h2⟩
  | _, _, _, i + 1, h, .val q s => by
    obtain ⟨L1, L2, L3, h1, h2⟩ := Slots.setW hx hn i (by simpa using h) s
    exact ⟨L1, L2, L3, .val q h1, h2⟩
  | _, _, _, i + 1, h, .own q r s => by
    obtain ⟨L1, L2, L3, h1, h2, h3⟩ := Slots.setW hx hn i (by simpa using h) s
    exact ⟨_ :: L1, L2, L3, .own q r h1, by rw [h2]; rfl, h3⟩
  | _, _, _, i + 1, h, .dic q s => by
    obtain ⟨L1, L2, L3, h1, h2, h3⟩ := Slots.setW hx hn i (by simpa using h) s
    exact ⟨_ :: L1, L2, L3, .dic q h1, by rw [h2]; rfl, h3⟩
  | _, _, _, i + 1, h, .dk q s => by
    obtain ⟨L1, L2, L3, h1, h2, h3⟩ := Slots.setW hx hn i (by simpa using h) s
    exact ⟨_ :: L1, L2, L3, .dk q h1, by rw [h2]; rfl, h3⟩
  | _, _, _, i + 1, h, .tw q s => by
    obtain ⟨L1, L2, L3, h1, h2, h3⟩ := Slots.setW hx hn i (by simpa using h) s
    exact ⟨_ :: L1, L2, L3, .tw q h1, by rw [h2]; rfl, h3⟩
end
theorem Env.tw_at {P : Hp} {L : List Addr} {n : Nat} {H : Hp} {σ : List (Option V)} {i : Nat} {l : Addr} {kvs : List (D × D)} {ds : List D} (E : Env c P L n H σ ρ) (h : ρ[i]? = some (.tw l kvs ds)) : ∃ t, σ[i]? = some (some (.ref t)) ∧ l ∈ L ++ c.O ∧ TDict c.pr c.wd c.K (L ++ c.O) H t l kvs ds ∧
    ∀ (o : HO) (lvs : List (D × D)), NDict c.pr c.wd c.K (L ++ c.O) (upd H l o) l lvs → Env c P L n (upd H l o) σ (ρ.set i (.tw l lvs ds)) := by
  obtain ⟨Ls, sl, sb⟩ := E.slots
  have nd := sb.nodup E.nd
  obtain ⟨t, h1, h2, h3, _⟩ := sl.tw_at (lvs := kvs) nd h
  have lL := sb.subset h2
  have hm : l ∈ L ++ c.O := List.mem_append_left _ lL
  have hO : l ∉ c.O := (E.fresh l lL).2
  refine ⟨t, h1, hm, h3, fun o lvs hy => ?_⟩
  have bs : Same (hid c.B c.H0) (hid c.B (upd H l o)) := same_upd_old (E.fresh l lL).1 E.base
  obtain ⟨t', g1, g2, g3, g5⟩ := sl.tw_at (lvs := lvs) nd h
  exact { nd := E.nd, fresh := E.fresh, slots := ⟨Ls, g5 o hy (hid_upd_in hm), sb⟩,
          lst := fun a ha => by
            by_cases e : a = l
            · exact ⟨_, by rw [e, upd_same]⟩
            · rw [upd_ne e]; exact E.lst a ha,
          bag := fun b q hb => (E.bag b q hb).move (fun o h => by rw [upd_ne fun e : b = l => hO (e ▸ (E.bO b q hb).1)]; exact h) fun o h => by rw [upd_ne fun e : q = l => hO (e ▸ (E.bO b q hb).2.1)]; exact h,
          base := bs, pers := by rw [hid_upd_in hm]; exact E.pers, bO := E.bO,
          al := fun o ho => by rw [upd_ne fun e : o = l => hO (e ▸ ho)]; exact E.al o ho }
/-! ### a tuple whose head is a dict of one's own -/
theorem ws_freezeW (i : Nat) {l : Addr} {kvs : List (D × D)} {ds : List D} (h : ρ[i]? = some (.tw l kvs ds)) (k : WS c ts (ρ.set i (.val (.tup (.dcn c.pr c.wd kvs :: ds)))) n Ψ) : WS c ts ρ n Ψ := fun P L σ H Dn E A => by
  obtain ⟨L', E', _⟩ := E.freezeW h
  exact k P L' σ H Dn E' A
theorem wt_lookW (i : Nat) {Φ : Nat → Bool → Prop} {l : Addr} {kvs : List (D × D)} {ds : List D} (h : ρ[i]? = some (.tw l kvs ds)) (k : WT c t (ρ.set i (.val (.tup (.dcn c.pr c.wd kvs :: ds)))) n Φ) : WT c t ρ n Φ := fun P L σ H Q E q => by
  obtain ⟨L', E', sub, _⟩ := E.freezeW h
  exact k P L' σ H Q E' fun b n1 H1 s1 j1 k1 => q b n1 H1 s1 j1 k1
theorem we_lookW (i : Nat) {l : Addr} {kvs : List (D × D)} {ds : List D} (h : ρ[i]? = some (.tw l kvs ds)) (k : WE c te (ρ.set i (.val (.tup (.dcn c.pr c.wd kvs :: ds)))) n fun n1 d => plain d = true ∧ Φ n1 d) : WE c te ρ n Φ := fun P L σ H Q E q => by
  obtain ⟨L', E', sub, hL, lL, xs, hx⟩ := E.freezeW h
  refine k P L' σ H Q E' fun v d n1 H1 s1 j1 r1 ⟨hs, k1⟩ => q v d n1 H1 s1 j1 ?_ k1
  have hB : l ∉ c.B := E.notB lL
  have h1 : H1 l = some (.ext (DictBare c.pr c.wd xs l)) := (hid_some.mp (s1 l _ (hid_some.mpr ⟨hB, hx⟩))).2
  exact rp_back (noSeq_ext h1) hL r1 hs
/-- an own dict looked at; what comes out hangs on no dict -/
theorem we_lookKp (i : Nat) {kvs : List (L2.Key × D)} (h : ρ[i]? = some (.dk kvs)) (k : WE c te (ρ.set i (.val (.dct kvs))) n fun n1 d => plain d = true ∧ Φ n1 d) : WE c te ρ n Φ := fun P L σ H Q E q => by
  obtain ⟨L', E', sub, l, xs, hL, lL, hx⟩ := E.freezeK2 h
  refine k P L' σ H Q E' fun v d n1 H1 s1 j1 r1 ⟨hs, k1⟩ => q v d n1 H1 s1 j1 ?_ k1
  have hB : l ∉ c.B := E.notB lL
  have h1 : H1 l = some (.dK xs) := (hid_some.mp (s1 l _ (hid_some.mpr ⟨hB, hx⟩))).2
  exact rp_back (noSeq_dK h1) hL r1 hs
/-- world[0][k] = e -/
theorem ws_wput {i : Nat} {l : Addr} {kvs : List (D × D)} {ds : List D} {tk : TE} (h0 : ρ[i]? = some (.tw l kvs ds)) (hz : kvs.length < 16777216) (h : WE c te ρ n fun n1 vd => WE c tk ρ n1 fun n2 kd => keyD kd = true ∧ Ψ.nx n2 (ρ.set i (.tw l (putD kvs kd vd) ds))) : WS c (tAsg te (gSub (tOp (rIx c.K) (tVar i) (tC (.int 0))) tk (rSetN c.pr c.wd c.K))) ρ n Ψ := fun P L σ H Dn E A => by
  refine h P L σ H _ E fun y vd n1 H1 s1 j1 r1 h1 => ?_
  have E1 := E.step s1 j1
  obtain ⟨t, g1, gL, ⟨vs, g2, _, _⟩, _⟩ := E1.tw_at h0
  refine ⟨.ref t, g1, .inr (.inl ⟨t, _, 0, .ref l, rfl, rfl, same_t same_hid g2, atI_nat (xs := V.ref l :: vs) (j := 0) rfl, ?_⟩)⟩
  refine h1 P L σ H1 _ E1 fun z kd n2 H2 s2 j2 r2 ⟨hk, k⟩ => ?_
  have E2 := E1.step s2 j2
  obtain ⟨t', g1', gL', ⟨vs', g2', g3', g4'⟩, up⟩ := E2.tw_at h0
  refine ⟨L ++ c.O, l, kvs, kd, vd, rfl, gL, g4', r2, hk, r1.mono (E1.sameLO s2), by rw [sizeLine_eq]; exact hz, fun φ hN => ?_⟩
  exact A.nx L n2 _ σ _ (up _ _ hN) k
theorem Env.newAny {P : Hp} {L : List Addr} {n : Nat} {H : Hp} {σ : List (Option V)} {D : Addr} {o : HO} (E : Env c P L n H σ ρ) (hD : H D = none) : Env c P (D :: L) n (upd H D o) σ ρ := by
  have w := E.new hD
  obtain ⟨Ls, sl, sb⟩ := E.slots
  have e0 : hid ((D :: L) ++ c.O) (upd H D o) = hid (L ++ c.O) H := hid_new_in hD
  exact { nd := List.nodup_cons.mpr ⟨w.2.2, E.nd⟩,
          fresh := fun l hl => by
            rcases List.mem_cons.mp hl with e | e
            · subst e; exact ⟨w.1, w.2.1⟩
            · exact E.fresh l e,
          slots := ⟨Ls, sl.move (fun l hl => upd_ne fun e => w.2.2 (e ▸ sb.subset hl)) (by rw [e0]; exact Same.refl _), sb.cons _⟩,
          lst := fun l hl => by
            rcases List.mem_cons.mp hl with e | e
            · subst e; exact ⟨_, upd_same⟩
            · rw [upd_ne fun q : l = D => w.2.2 (q ▸ e)]; exact E.lst l e,
          bag := (E.newT hD).2.1,
          base := E.base.trans (E.newT hD).1,
          pers := by rw [e0]; exact E.pers,
          bO := E.bO,
          al := fun o ho => by rw [upd_ne fun e : o = D => w.2.1 (e ▸ ho)]; exact E.al o ho }
/-- ({}, ..) -/
theorem ws_wnew {i : Nat} (hi : i < ρ.length) (h : WA c as ρ n fun n1 ds => ds.length < 16777216 ∧ ∀ l, Ψ.nx n1 (ρ.set i (.tw l [] ds))) : WS c (tAsg (tTup (tCons (tDNewN c.pr c.wd) as)) (gName i)) ρ n Ψ := fun P L σ H Dn E A => by
  intro p hp hs
  have E1 := E.newAny (o := .ext (DictBare c.pr c.wd [] p)) hp
  have w := E.new hp
  obtain ⟨Ls, sl0, sb⟩ := E.slots
  have nLs : p ∉ Ls := fun q => w.2.2 (sb.subset q)
  refine h P (p :: L) σ _ _ E1 fun vs ds n2 H2 s2 j2 r2 ⟨hz, k⟩ => ?_
  refine ⟨by show vs.length + 1 ≤ _; rw [r2.length, sizeLine_eq]; omega, fun t ht => ?_⟩
  have E2 := E1.step s2 j2
  have hp2 : H2 p = some (.ext (DictBare c.pr c.wd [] p)) := (hid_some.mp (s2 p _ (hid_some.mpr ⟨E1.notB List.mem_cons_self, upd_same⟩))).2
  have T := E2.newT (o := .tup (.ref p :: vs)) ht
  have E3 := E2.step T.1 T.2.1
  obtain ⟨Ls3, sl3, sb3⟩ := E3.slots
  have eL := sl3.inj sl0
  subst eL
  have npt : p ≠ t := fun e => by rw [← e, hp2] at ht; cases ht
  have td : TDict c.pr c.wd c.K ((p :: L) ++ c.O) (upd H2 t (.tup (.ref p :: vs))) t p [] ds := by
    refine ⟨vs, .inl (.inl ?_), r2.mono (rp_upd (K := c.K) ht), [], by rw [upd_ne npt]; exact hp2, hs, .nil⟩
    exact hid_at T.2.2
  obtain ⟨L1, L2, L3, sl4, eL, sub⟩ := Slots.setW td nLs i hi sl3
  have mv : ∃ Lp : List Addr, (L1 ++ p :: L2).Sublist Lp ∧ Lp.Perm (p :: L) := by
    rw [eL] at sb
    have h5 : (L1 ++ L2).Sublist L := (List.Sublist.append_left sub L1).trans sb
    exact ins_sub h5
  obtain ⟨Lp, sLp, pLp⟩ := mv
  have mem : ∀ a, a ∈ Lp ++ c.O ↔ a ∈ (p :: L) ++ c.O := fun a => by
    rw [List.mem_append, List.mem_append, pLp.mem_iff]
  refine A.nx Lp n2 _ _ _ ?_ (k p)
  exact { nd := pLp.nodup_iff.mpr E3.nd,
          fresh := fun l hl => E3.fresh l (pLp.mem_iff.mp hl),
          slots := ⟨_, sl4.move (fun _ _ => rfl) (same_hid_sub fun a ha => (mem a).mp ha), sLp⟩,
          lst := fun l hl => E3.lst l (pLp.mem_iff.mp hl),
          bag := E3.bag,
          base := E3.base,
          pers := E3.pers.trans (same_hid_sub fun a ha => (mem a).mp ha),
          bO := E3.bO, al := E3.al }
/-! ### dicts whose keys are tuples as data -/
theorem r2_ixN {pr : Program} {wd : World} {K : PySem.W.Frag} {Φ : D → Prop} {kvs : List (D × D)} {kd f : D} (hk : keyD kd = true) (hl : lookD kvs kd = some f) (k : Φ f) : R2D K (rIxR pr wd K) (.dcn pr wd kvs) kd Φ := fun O H x y Q rx ry _ q => by
  obtain ⟨l, rfl, nd⟩ := nd_of_rp rx
  exact ⟨O, l, kvs, kd, f, rfl, nd, ry, hk, hl, fun u ru => q u f H (Same.refl _) ru k⟩
def rInN (pr : Program) (wd : World) (K : PySem.W.Frag) : R2 := fun x y H Q => ∃ (O : List Addr) (l : Addr) (kvs : List (D × D)) (kd : D), y = .ref l ∧ NDictR pr wd K O H l kvs ∧ Rp K (hid O H) x kd ∧ keyD kd = true ∧ Q (.bl (lookD kvs kd).isSome) H
theorem r2_inN {pr : Program} {wd : World} {K : PySem.W.Frag} {Φ : D → Prop} {kvs : List (D × D)} {kd : D} (hk : keyD kd = true) (k : Φ (.bl (lookD kvs kd).isSome)) : R2D K (rInN pr wd K) kd (.dcn pr wd kvs) Φ := fun O H x y Q rx ry _ q => by
  obtain ⟨l, rfl, nd⟩ := nd_of_rp ry
  exact ⟨O, l, kvs, kd, rfl, nd, rx, hk, q _ _ H (Same.refl _) (.bl _) k⟩
theorem x_inN {X : Cx} (pr : Program) (wd : World) (K : PySem.W.Frag) (hu : X.A.units + 65 < cLine) (hp : X.prog = pr := by rfl) (hw : X.w = wd := by rfl) (hK : X.K = K := by rfl) : OpR X (compareOp .In) (rInN pr wd K) := by
  subst hp; subst hw; subst hK
  intro pins s σ H x y v u Q I rx ry h
  obtain ⟨O, l, kvs, kd, rfl, ⟨xs, n1, n2, n3⟩, rk, hk, q⟩ := h
  cases ry
  obtain ⟨a, ea, eb, is⟩ := key_is I rk rx hk
  subst eb
  have dd := nd_ofR I n1 n3
  refine wpAny_in_heap (by show X.A.in1.units + 8 < cLine; have : X.A.in1.units = X.A.units + 1 := rfl; omega) is n2 dd ?_
  have e : (lookD kvs kd).isSome = (atKey xs (nk kd)).isSome := by
    rcases ent_look (kd := kd) n3 with ⟨e1, e2⟩ | ⟨v', a', u', w, e1, e2, _⟩
    · rw [e1, e2]; rfl
    · rw [e1, e2]; rfl
  rw [← e]
  exact ⟨.bl _, H, I.tok _, rfl, q⟩
/-! ### dicts of ints and texts -/
theorem we_dnewK (k : Φ n (.dct [])) : WE c tDNewK ρ n Φ := fun P L σ H Q E q => by
  intro p hp
  have z := E.newT (o := .dK []) hp
  exact q _ _ n _ z.1 z.2.1 (.dct (.inl (hid_at z.2.2)) .nil) k
theorem we_kcopy {i : Nat} {kvs : List (L2.Key × D)} (h0 : ρ[i]? = some (.dk kvs)) (k : Φ n (.dct kvs)) : WE c (tCB (rDictD c.K) (tCons (tVar i) tNil)) ρ n Φ := fun P L σ H Q E q => by
  obtain ⟨l, g1, _, ⟨xs, g2, g3⟩, _⟩ := E.dk_at h0
  refine ⟨.ref l, g1, l, xs, rfl, .inl g2, fun p hp => ?_⟩
  have z := E.newT (o := .dK xs) hp
  exact q _ _ n _ z.1 z.2.1 (.dct (.inl (hid_at z.2.2)) (g3.mono (rp_upd (K := c.K) hp))) k
theorem rc_dictK {K : PySem.W.Frag} {Φ : D → Prop} {kvs : List (L2.Key × D)} (k : Φ (.dct kvs)) : RCD K (rDictD K) [.dct kvs] Φ := rc_dict k
/-- two dicts of the same -/
def rEqK (K : PySem.W.Frag) (neg : Bool) : R2 := fun x y H Q => ∃ (O : List Addr) (kvs lvs : List (L2.Key × D)), Rp K (hid O H) x (.dct kvs) ∧ Rp K (hid O H) y (.dct lvs) ∧ kvs.length = lvs.length ∧ (∀ kv ∈ kvs, ∃ d, lookK lvs kv.1 = some d ∧ fit kv.2 = true ∧ fit d = true ∧ eqD kv.2 d = true) ∧ Q (.bl (!neg)) H
theorem r2_eqK {K : PySem.W.Frag} {neg : Bool} {Φ : D → Prop} {kvs lvs : List (L2.Key × D)} (hl : kvs.length = lvs.length) (h : ∀ kv ∈ kvs, ∃ d, lookK lvs kv.1 = some d ∧ fit kv.2 = true ∧ fit d = true ∧ eqD kv.2 d = true) (k : Φ (.bl (!neg))) : R2D K (rEqK K neg) (.dct kvs) (.dct lvs) Φ := fun O H x y Q rx ry _ q =>
  ⟨O, kvs, lvs, rx, ry, hl, h, q _ _ H (Same.refl _) (.bl _) k⟩
theorem hitsD {X : Cx} {pins : List (Addr × Obj)} {σ : L2.St} {H : Hp} {s : Shared} (I : Inv X pins σ H s) {A : Around} (hu : A.in1.units + 64 < cLine) {O : List Addr} {ls : List (L2.Key × V)} {lvs : List (L2.Key × D)} (rl : RpKs X.K (hid O H) ls lvs) {vb : List (L2.Key × Value)} (rb : KV ls vb) :
    ∀ {ks : List (L2.Key × V)} {kvs : List (L2.Key × D)}, RpKs X.K (hid O H) ks kvs → ∀ {va : List (L2.Key × Value)}, KV ks va → (∀ kv ∈ kvs, ∃ d, lookK lvs kv.1 = some d ∧ fit kv.2 = true ∧ fit d = true ∧ eqD kv.2 d = true) → PySem.W.KeqHits A.in1 s vb va true
  | _, _, .nil, _, ra, _ => by cases ra; exact .nil
  | _, _, .cons (x := x) h r, _, ra, hp => by
    cases ra with
    | @cons _ q _ qs g t =>
      obtain ⟨g1, g2⟩ := g
      obtain ⟨d, e1, e2, e3, e4⟩ := hp _ List.mem_cons_self
      obtain ⟨u, hu1, ru⟩ := rl.look.1 d e1
      have rr : RelO (some u) (valueAt vb x) := by rw [← hu1]; exact rb.val x
      obtain ⟨y, hy, ry⟩ := rr.some_of
      obtain ⟨key, v⟩ := q
      have g1' : x = key := g1
      subst g1'
      obtain ⟨as, r1⟩ := Dp.reads I _ _ v (Dp.mono same_hid (h.dp (fit_p e2))) g2
      obtain ⟨bs, r2⟩ := Dp.reads I _ _ y (Dp.mono same_hid (ru.dp (fit_p e3))) ry
      have z := PySem.W.keq_at (A := A) r1 r2 (fit_s e2) (fit_s e3) hu
      rw [show PyData.eqv (dpy _) (dpy d) = true from e4] at z
      exact .hit (b := true) hy z (hitsD I hu rl rb r t fun kv hk => hp kv (List.mem_cons_of_mem _ hk))
theorem x_neK {X : Cx} (K : PySem.W.Frag) (hu : X.A.units + 65 < cLine) (hK : X.K = K := by rfl) : OpR X (compareOp .NotEq) (rEqK K true) := by
  subst hK
  intro pins s σ H x y v u Q I rx ry h
  obtain ⟨O, kvs, lvs, hx, hy, hl, hh, q⟩ := h
  cases hx with
  | @dct a ks _ ha ra =>
    cases hy with
    | @dct b ls _ hb rb =>
      cases rx
      cases ry
      obtain ⟨_, ya, va, va', da⟩ := (same_rd same_hid ha).ok I.hok
      obtain ⟨_, yb, vb, vb', db⟩ := (same_rd same_hid hb).ok I.hok
      refine PySem.W.keq_ne (knd := mixKind X.prog X.w) (r := true) ya yb da db (by omega) (fun _ => hitsD (A := X.A) I (by show X.A.units + 1 + 64 < cLine; omega) rb vb' ra va' hh) ?_
      have e : va.length = vb.length := by rw [← va'.length, ← vb'.length, ra.length, rb.length]; exact hl
      rw [show (va.length == vb.length && true) = true from by rw [e]; simp]
      exact ⟨.bl false, H, I, rfl, q⟩
/-! ### own lists -/
theorem rp_scals {K : PySem.W.Frag} {H H' : Hp} : ∀ {xs : List V} {es : List D}, RpAll K H xs es → (∀ e ∈ es, scalar e = true) → RpAll K H' xs es
  | _, _, .nil, _ => .nil
  | _, _, .cons h r, hs => .cons (h.scal (hs _ List.mem_cons_self)) (rp_scals r fun e he => hs e (List.mem_cons_of_mem _ he))
/-- a new list of scalars, made while an own list is looked at -/
theorem wf_look (i : Nat) {ds : List D} {Φ : Nat → List D → Prop} (h : ρ[i]? = some (.own ds)) (k : WF c te (ρ.set i (.val (.lst ds))) n fun n1 es => (∀ e ∈ es, scalar e = true) ∧ Φ n1 es) : WF c te ρ n Φ := fun P L σ H Q E q => by
  obtain ⟨L', E', sub⟩ := E.freeze h
  refine k P L' σ H Q E' fun p xs es n1 H1 s1 hp hp1 r1 j1 ⟨hs, k1⟩ => q p xs es n1 H1 s1 hp hp1 ?_ j1 k1
  exact rp_scals r1 hs
/-- x.append(y.pop(e)) -/
theorem ws_appendPop {i j : Nat} {ds es : List D} (h0 : ρ[i]? = some (.own ds)) (h1 : ρ[j]? = some (.own es)) (hij : i ≠ j) (h : WE c te ρ n fun n1 d => ∃ (k : Nat) (y : D), d = .int (k : Int) ∧ es[k]? = some y ∧ k < 2 ^ 62 ∧ ds.length < sizeLine ∧ Ψ.nx n1 ((ρ.set j (.own (es.eraseIdx k))).set i (.own (ds ++ [y])))) :
    WS c (tDrop (tBM c.K "list" rAppend (tVar i) (tCons (tBM c.K "list" rPopAt (tVar j) (tCons te tNil)) tNil))) ρ n Ψ := fun P L σ H Dn E A => by
  obtain ⟨l, xs, a1, a2, a3, a4⟩ := E.own_at h0
  obtain ⟨m, ys, b1, b2, b3, b4⟩ := E.own_at h1
  refine ⟨.ref l, a1, .inl ⟨rfl, xs, .inl (.inl a2)⟩, ?_⟩
  refine ⟨.ref m, b1, .inl ⟨rfl, ys, .inl (.inl b2)⟩, ?_⟩
  refine h P L σ H _ E fun v d n1 H1 s1 j1 r1 ⟨k, y, e, hk, hk2, hz, kk⟩ => ?_
  subst e
  cases r1
  have E1 := E.step s1 j1
  obtain ⟨m', ys', c1, c2, c3, c4⟩ := E1.own_at h1
  rw [b1] at c1
  cases c1
  obtain ⟨u, hu, ru⟩ := c3.get' hk
  have hlt : k < ys'.length := (List.getElem?_eq_some_iff.mp hu).1
  refine ⟨m, ys', (k : Int), k, u, rfl, rfl, c2, by omega, by omega, ?_, hu, ?_⟩
  · exact (ixN_seq (n := ys'.length) (i := (k : Int)) (j := k) (by unfold ixN; rw [if_pos (by omega), if_pos (by omega)]; simp)).1
  have E2 := (c4 (ys'.eraseIdx k) (es.eraseIdx k) (c3.eraseIdx k)).1
  have Ep := (E1.pers'.own_at h1)
  obtain ⟨m'', ys'', f1, f2, f3, f4⟩ := Ep
  rw [b1] at f1
  cases f1
  have E2p := (f4 (ys'.eraseIdx k) (es.eraseIdx k) (c3.eraseIdx k)).1.pers
  have h0' : (ρ.set j (.own (es.eraseIdx k)))[i]? = some (.own ds) := by rw [List.getElem?_set_ne (Ne.symm hij)]; exact h0
  obtain ⟨l', xs', g1, g2, g3, g4⟩ := E2.own_at h0'
  rw [a1] at g1
  cases g1
  refine ⟨l, xs', u, rfl, rfl, g2, by rw [g3.length]; exact hz, ?_⟩
  exact A.nx L n1 _ σ _ (g4 (xs' ++ [u]) (ds ++ [y]) (g3.append (.cons (ru.mono E2p) .nil))).1 kk
/-- x[i] = e, x one's own -/
theorem ws_lset {i : Nat} {ds : List D} {tk : TE} (h0 : ρ[i]? = some (.own ds)) (h : WE c te ρ n fun n1 vd => WE c tk ρ n1 fun n2 kd => ∃ k : Nat, kd = .int (k : Int) ∧ k < ds.length ∧ Ψ.nx n2 (ρ.set i (.own (ds.set k vd)))) : WS c (tAsg te (gSub (tVar i) tk rSetL)) ρ n Ψ := fun P L σ H Dn E A => by
  refine h P L σ H _ E fun y vd n1 H1 s1 j1 r1 h1 => ?_
  have E1 := E.step s1 j1
  obtain ⟨l, xs, a1, a2, a3, a4⟩ := E1.own_at h0
  refine ⟨.ref l, a1, ?_⟩
  refine h1 P L σ H1 _ E1 fun z kd n2 H2 s2 j2 r2 ⟨k, e, hk, kk⟩ => ?_
  subst e
  cases r2
  have E2 := E1.step s2 j2
  obtain ⟨l', xs', g1, g2, g3, g4⟩ := E2.own_at h0
  rw [a1] at g1
  cases g1
  refine ⟨l, xs', (k : Int), k, rfl, rfl, g2, ?_, ?_⟩
  · rw [g3.length]
    unfold ixN
    rw [if_pos (by omega), if_pos (by omega)]; simp
  · exact A.nx L n2 _ σ _ (g4 _ _ (g3.set (r1.mono (E1.sameLO s2)) k)).1 kk
end
end L3
/-! L3u: sorted(d, reverse=True) of a dict with int keys. -/
namespace L3
open PySem L2 PySem.W PyProof.Rows PySem.Calls PyProof.V
section
variable {prog : Program} {w : World} {A : Around} {E : Value → Shared → Prop} {s : Shared}
theorem sorted_dictR {ns : List Int} {b : Bool} {d : Addr} {es : Array DictEntry} {ep : Nat} {Q : Value → Shared → Prop} (hh : A.handled = none) (lo : (d == sysModules) = false) (hD : s.heap.DictRaw d es ep)
    (hi : IntsAre (es.toList.map (·.key)) ns) (hn : es.size ≤ sizeLine)
    (h : ∀ (h1 h2 : Heap) (tk : Nat) (out : Array Value) (c : Nat) (ns' : List Int), (∀ b o, s.heap.get? b = some o → h1.get? b = some o) → (∀ b o, h1.get? b = some o → h2.get? b = some o) → h2.get? h1.objs.size = some { cls := .type "list", data := .seq out c } → IntsAre out.toList ns' → ns'.Perm ns → Q (.ref h1.objs.size) { s with heap := h2, toks := tk }) :
    wpAny (model prog w) A (call (.builtin "sorted") [.ref d] [(Str.ofString "reverse", .bool b)]) Q E s := by
  refine call_function_entry_kw kind_sorted plain_sorted entry_sorted (PyProof.Rows.args_sorted_rev _ _) ?_
  unfold Builtin.«sorted»
  refine wpAny_bind (m := checkCount "sorted" 1 1 _) (wpAny_pure ?_)
  refine wpAny_bind (kdu_collect (A := A.in1) (KdlSrc.rawDict lo) hh hD hn fun h' tk acc hkp hacc => ?_)
  have hl : acc.toList = es.toList.map (·.key) := by
    apply List.ext_getElem?
    intro j
    by_cases hj : j < acc.size
    · obtain ⟨hi, hv⟩ := hacc.2 j acc[j] (by simp [hj])
      rw [Array.getElem?_toList, Array.getElem?_eq_getElem hj, List.getElem?_map, Array.getElem?_toList, Array.getElem?_eq_getElem hi, hv]; rfl
    · have hs : acc.size = es.size := hacc.1
      rw [Array.getElem?_toList, Array.getElem?_eq_none (by omega), List.getElem?_map, Array.getElem?_toList, Array.getElem?_eq_none (by omega)]; rfl
  have hz : acc.toList.length ≤ sizeLine := by rw [Array.length_toList, hacc.1]; exact hn
  refine wpAny_bind (wpAny_newList ?_ hz)
  rw [hl] at hz ⊢
  generalize hvs : es.toList.map (·.key) = vs at hi hz ⊢
  have ho : (h'.push { cls := .type "list", data := .seq vs.toArray }).get? h'.objs.size = some (seqObj "list" vs.toArray 0) := Heap.get?_push_size _ rfl
  refine wpAny_bind (wpAny_holding (wpAny_call_entry_kw slot_list_sort ⟨_, ho, rfl⟩ entry_list_sort ?_ (PyProof.Rows.args_list_sort_rev _ _)))
  refine SrtR.list_sort_ordR (s := { s with heap := h'.push { cls := .type "list", data := .seq vs.toArray }, toks := tk }) SrtO.swo_int ho hz (fun h2 => SrtO.ints_sortable hi h2) fun out h1 h2 => ?_
  obtain ⟨ns', k1, k2, _⟩ := SrtR.ints_outR hi h1 h2
  obtain ⟨c, hc⟩ := sortedHeap_at (out := (if b = true then out.toArray.reverse else out.toArray)) ho
  refine ⟨_, rfl, ?_⟩
  refine wpAny_pure ⟨_, rfl, h h' _ tk _ c ns' hkp ?_ hc k1 k2⟩
  intro b o q
  rw [sortedHeap_old (Nat.ne_of_lt (Heap.lt_size q)) (Nat.lt_of_lt_of_le (Heap.lt_size q) (by rw [Heap.size_push]; exact Nat.le_succ _))]
  exact Heap.get?_push_of_some _ q
end
def rSortKR (K : PySem.W.Frag) : List V → List V → Hp → VK → Prop := fun vs zs H Q => ∃ (O : List Addr) (v : V) (kvs : List (L2.Key × D)) (ns : List Int), vs = [v] ∧ zs = [.bl true] ∧ Rp K (hid O H) v (.dct kvs) ∧ kvs.map (·.1) = ns.map Sum.inl ∧
  ∀ (ns' : List Int) (p : Addr), ns'.Perm ns → H p = none → Q (.ref p) (upd H p (.lst (ns'.map V.int)))
theorem x_sortKR {X : Cx} (K : PySem.W.Frag) (hcalm : X.calm = true := by rfl) (hK : X.K = K := by rfl) : CallRK X (.builtin "sorted") [Str.ofString "reverse"] (rSortKR K) := by
  subst hK
  intro pins s σ H vs zs us ws Q I r rz h
  obtain ⟨O, v, kvs, ns, rfl, rfl, hx, hk, q⟩ := h
  cases hx with
  | @dct a xs _ hs rk =>
    obtain rfl := Vals.ref1 r
    obtain ⟨w1, rfl, e1⟩ := L2.vals1 rz
    obtain rfl : w1 = Value.bool true := e1
    obtain ⟨z, ya, va, va', da⟩ := (same_rd same_hid hs).ok I.hok
    obtain ⟨oa, es, ep, hoa, hcl, hda, hka, hpa, _⟩ := da
    have hlen : va.length = es.size := by rw [← hpa.length]; exact Array.length_toList
    have hll : xs.length = va.length := va'.length
    have hn : es.size ≤ sizeLine := by rw [← hlen, ← hll]; exact z
    have hi : IntsAre (es.toList.map (·.key)) ns := by
      have key : ∀ {es : List DictEntry} {va : List (L2.Key × Value)}, Pairs (mixKind X.prog X.w) es va → ∀ {xs : List (L2.Key × V)} {kvs : List (L2.Key × D)} {ns : List Int}, KV xs va → RpKs X.K (hid O H) xs kvs → kvs.map (·.1) = ns.map Sum.inl → IntsAre (es.map (·.key)) ns := by
        intro es va hp
        induction hp with
        | nil =>
          intro xs kvs ns h1 h2 h3
          cases h1
          cases h2
          cases ns with
          | nil => exact .nil
          | cons _ _ => cases h3
        | @cons e kv es va g1 g2 _ ih =>
          intro xs kvs ns h1 h2 h3
          cases h1 with
          | cons p1 p2 =>
            cases h2 with
            | cons r1 r2 =>
              cases ns with
              | nil => cases h3
              | cons i ns =>
                have h3' := List.cons.inj h3
                have e0 : kv.1 = Sum.inl i := p1.1.symm.trans h3'.1
                have g1' : keyIs kv.1 e.key = true := g1
                rw [e0] at g1'
                obtain ⟨j, t, e1, e2⟩ | ⟨x, t, e1, e2⟩ := keyIs_shape g1'
                · cases e1
                  show IntsAre (e.key :: es.map (·.key)) _
                  rw [e2]
                  exact .cons _ _ (ih p2 r2 h3'.2)
                · cases e1
      exact key hpa va' rk hk
    refine sorted_dictR (s := s) (I.ok.hd hcalm) ya ⟨oa, hoa, hcl, hda⟩ hi hn fun h1 h2 tk out c ns' k1 k2 hc io hp => ?_
    have I1 : Inv X pins σ H { s with heap := h1 } := I.kept (t' := s.toks) k1
    have hlo : (ns'.map V.int).length ≤ sizeLine := by
      rw [List.length_map, hp.length_eq]
      have : ns.length = kvs.length := by
        have := congrArg List.length hk
        rw [List.length_map, List.length_map] at this
        exact this.symm
      rw [this, ← rk.length]; exact z
    have e0 : out.toList.toArray = out := Array.toArray_toList
    exact ⟨.ref _, upd H h1.objs.size (.lst (ns'.map V.int)), I1.laid (t' := tk) k2 (Nat.le_refl _) ⟨hlo, out.toList, c, L2.vals_of_ints io, by rw [e0]; exact hc⟩, rfl, q ns' _ hp (I1.hok.fresh (Nat.le_refl _))⟩
section
variable {c : Ctx} {ρ : List SD} {n : Nat} {ta tk : TA} {Φ : Nat → D → Prop}
/-- a built-in called with keywords -/
theorem we_ckw {r : List V → List V → Hp → VK → Prop} (h : WA c ta ρ n fun n1 ds => WA c tk ρ n1 fun n2 es => ∀ (O : List Addr) (H : Hp) (vs zs : List V) (Q : VK), RpAll c.K (hid O H) vs ds → RpAll c.K (hid O H) zs es → (∀ p, H p = none → p ∉ O) → (∀ v f H', Same H H' → Rp c.K (hid O H') v f → Φ n2 f → Q v H') → r vs zs H Q) : WE c (tCKw r ta tk) ρ n Φ := fun P L σ H Q E q => by
  refine h P L σ H _ E fun vs ds n1 H1 s1 j1 r1 h1 => ?_
  have E1 := E.step s1 j1
  refine h1 P L σ H1 _ E1 fun zs es n2 H2 s2 j2 r2 h2 => ?_
  have E2 := E1.step s2 j2
  refine h2 (L ++ c.O) H2 vs zs Q (r1.mono (E1.sameLO s2)) r2 E2.noO fun v f H' s r k => ?_
  have z := E2.same s
  exact q v f n2 H' ((s1.trans s2).trans z.1) z.2 r k
theorem we_sortKR (h : WA c ta ρ n fun n1 ds => ∃ (kvs : List (L2.Key × D)) (ns : List Int), ds = [.dct kvs] ∧ kvs.map (·.1) = ns.map Sum.inl ∧ WA c tk ρ n1 fun n2 es => es = [.bl true] ∧ ∀ ns' : List Int, ns'.Perm ns → Φ n2 (.lst (ns'.map .int))) : WE c (tCKw (rSortKR c.K) ta tk) ρ n Φ := we_ckw fun P L σ H Q E q => h P L σ H Q E fun vs ds n1 H1 s1 j1 r1 ⟨kvs, ns, e, hk, h2⟩ => by
  subst e
  refine q vs _ n1 H1 s1 j1 r1 fun P L σ H Q E q => h2 P L σ H Q E fun zs es n2 H2 s2 j2 r2 ⟨e, kk⟩ => ?_
  subst e
  refine q zs _ n2 H2 s2 j2 r2 fun O H xs ys Q rx ry no qq => ?_
  obtain ⟨v, rfl, rv⟩ := rx.one
  obtain ⟨u, rfl, ru⟩ := ry.one
  cases ru
  exact ⟨O, v, kvs, ns, rfl, rfl, rv, hk, fun ns' p hp hpn => qq _ _ _ (same_upd_new hpn) (.lst (.inl (hid_at (no p hpn))) (RpAll.ofInts ns')) (kk ns' hp)⟩
end
end L3
/-! L3v: an own list looked at; what comes out has no lists. -/
namespace L3
open PySem L2
mutual
def noLst : D → Bool
  | .lst _ => false
  | .tup xs => noLstAll xs
  | .obj _ _ => false
  | .dct _ => false
  | .dcn _ _ _ => false
  | .adr _ => false
  | .ty _ => false
  | _ => true
def noLstAll : List D → Bool
  | [] => true
  | x :: xs => noLst x && noLstAll xs
end
def NoTup (H : Hp) (l : Addr) : Prop := ∀ xs, ¬ Rd H l (.tup xs)
theorem noTup_lst {H : Hp} {l : Addr} {ys : List V} (h : H l = some (.lst ys)) : NoTup H l := fun xs => by
  rintro (q | ⟨o, q⟩) <;> (rw [h] at q; cases q)
mutual
theorem rt_drop {K : PySem.W.Frag} {O : List Addr} {H : Hp} {l : Addr} (hl : NoTup H l) : ∀ (d : D) (v : V), Rp K (hid O H) v d → noLst d = true → Rp K (hid (l :: O) H) v d
  | .non, _, h, _ => by cases h; exact .non
  | .bl b, _, h, _ => by cases h; exact .bl b
  | .int i, _, h, _ => by cases h; exact .int i
  | .str x, _, h, _ => by cases h; exact .str x
  | .lst xs, _, h, p => by cases p
  | .tup xs, _, h, p => by
    cases h with
    | tup h r =>
      refine .tup ?_ (rt_drops hl xs _ r p)
      rcases h with h | h
      · exact .inl (rd_drop (hl _) h)
      · exact .inr h
  | .obj _ _, _, _, p => by cases p
  | .adr _, _, _, p => by cases p
  | .ty _, _, _, p => by cases p
  | .dct _, _, _, p => by cases p
  | .dcn _ _ _, _, _, p => by cases p
theorem rt_drops {K : PySem.W.Frag} {O : List Addr} {H : Hp} {l : Addr} (hl : NoTup H l) : ∀ (ds : List D) (vs : List V), RpAll K (hid O H) vs ds → noLstAll ds = true → RpAll K (hid (l :: O) H) vs ds
  | [], _, h, _ => by cases h; exact .nil
  | x :: xs, _, h, p => by
    cases h with
    | cons h r =>
      have p' : (noLst x && noLstAll xs) = true := p
      rw [Bool.and_eq_true] at p'
      exact .cons (rt_drop hl x _ h p'.1) (rt_drops hl xs _ r p'.2)
end
section
variable {c : Ctx} {ρ : List SD} {n : Nat} {te : TE} {Φ : Nat → D → Prop}
theorem Env.freeze2 {P : Hp} {L : List Addr} {n : Nat} {H : Hp} {σ : List (Option V)} {i : Nat} {ds : List D} (E : Env c P L n H σ ρ) (h : ρ[i]? = some (.own ds)) : ∃ L', Env c P L' n H σ (ρ.set i (.val (.lst ds))) ∧ L'.Sublist L ∧ ∃ l xs, (∀ a ∈ L, a = l ∨ a ∈ L') ∧ l ∈ L ∧ H l = some (.lst xs) := by
  obtain ⟨Ls, sl, sb⟩ := E.slots
  obtain ⟨L1, l, L2, xs, h1, h2, h3, h4⟩ := sl.freeze h
  have lL : l ∈ L := sb.subset (by rw [h1]; simp)
  have sub : (L.erase l).Sublist L := List.erase_sublist
  have nl : l ∉ L.erase l := E.nd.not_mem_erase
  have sb2 : (L1 ++ L2).Sublist (L.erase l) := by
    have nd := sb.nodup E.nd
    rw [h1] at nd
    have n1 : l ∉ L1 := fun q => by
      have := (List.nodup_append.mp nd).2.2 l q l List.mem_cons_self
      exact this rfl
    have q : (Ls.erase l).Sublist (L.erase l) := sb.erase l
    rw [h1, List.erase_append_right _ n1, List.erase_cons_head] at q
    exact q
  have nO : l ∉ (L.erase l) ++ c.O := fun q => by
    rcases List.mem_append.mp q with q | q
    · exact nl q
    · exact (E.fresh l lL).2 q
  have se : Same (hid (L ++ c.O) H) (hid ((L.erase l) ++ c.O) H) := same_hid_sub fun a ha => by
    rcases List.mem_append.mp ha with q | q
    · exact List.mem_append_left _ (sub.subset q)
    · exact List.mem_append_right _ q
  exact ⟨L.erase l, { nd := sub.nodup E.nd, fresh := fun l hl => E.fresh l (sub.subset hl), slots := ⟨_, h4 _ se nO, sb2⟩, lst := fun l hl => E.lst l (sub.subset hl), base := E.base, pers := E.pers.trans se, bO := E.bO, al := E.al, bag := E.bag }, sub, l, xs, fun a ha => by by_cases q : a = l; exact .inl q; exact .inr ((List.mem_erase_of_ne q).mpr ha), lL, h2⟩
theorem we_lookT (i : Nat) {ds : List D} (h : ρ[i]? = some (.own ds)) (k : WE c te (ρ.set i (.val (.lst ds))) n fun n1 d => noLst d = true ∧ Φ n1 d) : WE c te ρ n Φ := fun P L σ H Q E q => by
  obtain ⟨L', E', sub, l, xs, hL, lL, hx⟩ := E.freeze2 h
  refine k P L' σ H Q E' fun v d n1 H1 s1 j1 r1 ⟨hs, k1⟩ => q v d n1 H1 s1 j1 ?_ k1
  have hB : l ∉ c.B := E.notB lL
  have h1 : H1 l = some (.lst xs) := (hid_some.mp (s1 l _ (hid_some.mpr ⟨hB, hx⟩))).2
  exact (rt_drop (noTup_lst h1) d v r1 hs).mono (same_hid_sub fun a ha => by
    rcases List.mem_append.mp ha with q | q
    · rcases hL a q with e | e
      · rw [e]; exact List.mem_cons_self
      · exact List.mem_cons_of_mem _ (List.mem_append_left _ e)
    · exact List.mem_cons_of_mem _ (List.mem_append_right _ q))
end
end L3
/-! L3w: for k in d; list(d), len(d), isinstance(d, dict), d == e. -/
namespace L3
open PySem L2
def tLockOr (t : TS) : TS := fun D σ H => tLock t D σ H ∨ t D σ H
theorem ps_lockOr {X : Cx} {st : Stmt} {t : TS} (h : PS X st t) : PS X st (tLockOr t) := by
  refine ⟨fun pins s σ H D I hw => ?_⟩
  rcases hw with hw | hw
  · exact (ps_lock h).run pins s σ H D I hw
  · exact h.run pins s σ H D I hw
/-! ### a dict, locked or not -/
def DkC (xs : List (L2.Key × V)) (o : Option HO) : Prop := o = some (.dK xs) ∨ ∃ od, o = some (.frz od (.dK xs))
/-- two heaps that agree but for the lock of one dict -/
structure Ag (d : Addr) (xs : List (L2.Key × V)) (H H' : Hp) : Prop where
  off : ∀ a, a ≠ d → H' a = H a
  a1 : DkC xs (H d)
  a2 : DkC xs (H' d)
section
variable {d : Addr} {xs : List (L2.Key × V)} {H H' : Hp}
theorem Ag.symm (A : Ag d xs H H') : Ag d xs H' H := ⟨fun a h => (A.off a h).symm, A.a2, A.a1⟩
theorem Ag.hid {O : List Addr} (A : Ag d xs H H') (h : d ∉ O) : Ag d xs (hid O H) (hid O H') := ⟨fun a ha => by
  unfold L3.hid
  by_cases q : a ∈ O
  · rw [if_pos q, if_pos q]
  · rw [if_neg q, if_neg q]; exact A.off a ha, by rw [hid_out h]; exact A.a1, by rw [hid_out h]; exact A.a2⟩
theorem Ag.lst (A : Ag d xs H H') {a : Addr} {ys : List V} (h : Rd H a (.lst ys)) : Rd H' a (.lst ys) := by
  have ne : a ≠ d := fun e => by
    subst e
    rcases h with h | ⟨o, h⟩ <;> rcases A.a1 with q | ⟨od, q⟩ <;> (rw [h] at q; cases q)
  unfold Rd
  rw [A.off a ne]; exact h
theorem Ag.tup (A : Ag d xs H H') {a : Addr} {ys : List V} (h : Rd H a (.tup ys)) : Rd H' a (.tup ys) := by
  have ne : a ≠ d := fun e => by
    subst e
    rcases h with h | ⟨o, h⟩ <;> rcases A.a1 with q | ⟨od, q⟩ <;> (rw [h] at q; cases q)
  unfold Rd
  rw [A.off a ne]; exact h
theorem Ag.sqt (A : Ag d xs H H') {K : PySem.W.Frag} {a : Addr} {ys : List V} (h : SqT K H a ys) : SqT K H' a ys := by
  rcases h with h | h
  · exact .inl (A.tup h)
  · exact .inr h
theorem Ag.dK (A : Ag d xs H H') {a : Addr} {ys : List (L2.Key × V)} (h : Rd H a (.dK ys)) : Rd H' a (.dK ys) := by
  by_cases e : a = d
  · subst e
    have ey : ys = xs := by rcases h with h | ⟨o, h⟩ <;> rcases A.a1 with q | ⟨od, q⟩ <;> (rw [h] at q; cases q; try rfl)
    subst ey
    rcases A.a2 with q | ⟨od, q⟩
    · exact .inl q
    · exact .inr ⟨od, q⟩
  · unfold Rd
    rw [A.off a e]; exact h
theorem Ag.ne {a : Addr} {o : HO} (A : Ag d xs H H') (h : H a = some o) (n1 : ∀ ys, o ≠ .dK ys) (n2 : ∀ od u, o ≠ .frz od u) : a ≠ d := fun e => by
  subst e
  rcases A.a1 with q | ⟨od, q⟩
  · rw [h] at q; exact n1 _ (Option.some.inj q)
  · rw [h] at q; exact n2 _ _ (Option.some.inj q)
theorem Ag.ins (A : Ag d xs H H') {a C dx : Addr} {fs : List (Str × V)} (h : H a = some (.ins C dx fs)) : H' a = some (.ins C dx fs) := by
  rw [A.off a (A.ne h (fun _ => nofun) fun _ _ => nofun)]; exact h
theorem Ag.rext (A : Ag d xs H H') {a : Addr} {φ : Heap → Prop} (h : Rd H a (.ext φ)) : Rd H' a (.ext φ) := by
  have ne : a ≠ d := fun e => by
    subst e
    rcases h with h | ⟨o, h⟩ <;> rcases A.a1 with q | ⟨od, q⟩ <;> (rw [h] at q; cases q)
  unfold Rd
  rw [A.off a ne]; exact h
theorem Ag.ext (A : Ag d xs H H') {a : Addr} {φ : Heap → Prop} (h : H a = some (.ext φ)) : H' a = some (.ext φ) := by
  rw [A.off a (A.ne h (fun _ => nofun) fun _ _ => nofun)]; exact h
mutual
theorem Rp.ag {K : PySem.W.Frag} {d : Addr} {xs : List (L2.Key × V)} {H H' : Hp} (A : Ag d xs H H') : ∀ {v : V} {x : D}, Rp K H v x → Rp K H' v x
  | _, _, .non => .non
  | _, _, .bl b => .bl b
  | _, _, .int i => .int i
  | _, _, .str x => .str x
  | _, _, .lst h r => .lst (A.lst h) (RpAll.ag A r)
  | _, _, .tup h r => .tup (A.sqt h) (RpAll.ag A r)
  | _, _, .obj h r => .obj (A.ins h) (RpFs.ag A r)
  | _, _, .adr a => .adr a
  | _, _, .ty n => .ty n
  | _, _, .dct h r => .dct (A.dK h) (RpKs.ag A r)
  | _, _, .dcn h s r => .dcn (A.rext h) s (RpNs.ag A r)
theorem RpAll.ag {K : PySem.W.Frag} {d : Addr} {xs : List (L2.Key × V)} {H H' : Hp} (A : Ag d xs H H') : ∀ {vs : List V} {ds : List D}, RpAll K H vs ds → RpAll K H' vs ds
  | _, _, .nil => .nil
  | _, _, .cons h r => .cons (Rp.ag A h) (RpAll.ag A r)
theorem RpFs.ag {K : PySem.W.Frag} {d : Addr} {xs : List (L2.Key × V)} {H H' : Hp} (A : Ag d xs H H') : ∀ {vs : List (Str × V)} {ds : List (Str × D)}, RpFs K H vs ds → RpFs K H' vs ds
  | _, _, .nil => .nil
  | _, _, .cons h r => .cons (Rp.ag A h) (RpFs.ag A r)
theorem RpKs.ag {K : PySem.W.Frag} {d : Addr} {xs : List (L2.Key × V)} {H H' : Hp} (A : Ag d xs H H') : ∀ {vs : List (L2.Key × V)} {ds : List (L2.Key × D)}, RpKs K H vs ds → RpKs K H' vs ds
  | _, _, .nil => .nil
  | _, _, .cons h r => .cons (Rp.ag A h) (RpKs.ag A r)
theorem RpNs.ag {K : PySem.W.Frag} {d : Addr} {xs : List (L2.Key × V)} {H H' : Hp} (A : Ag d xs H H') : ∀ {vs : List (NestedKey × Addr × Value)} {ds : List (D × D)}, RpNs K H vs ds → RpNs K H' vs ds
  | _, _, .nil => .nil
  | _, _, .cons a b h w v r => .cons a b (Rp.ag A h) w (Rp.ag A v) (RpNs.ag A r)
end
theorem NDict.ag {pr : Program} {wd : World} {K : PySem.W.Frag} {O : List Addr} {l : Addr} {kvs : List (D × D)} (A : Ag d xs H H') (hd : d ∉ O) (h : NDict pr wd K O H l kvs) : NDict pr wd K O H' l kvs := by
  obtain ⟨ys, h1, h2, h3⟩ := h
  exact ⟨ys, A.ext h1, h2, ((RpNs.of h3).ag (A.hid hd)).pair⟩
theorem Slots.ag {pr : Program} {wd : World} {K : PySem.W.Frag} {O : List Addr} (A : Ag d xs H H') (hd : d ∉ O) : ∀ {σ : List (Option V)} {ρ : List SD} {L : List Addr}, Slots pr wd K O H σ ρ L → d ∉ L → Slots pr wd K O H' σ ρ L
  | _, _, _, .nil, _ => .nil
  | _, _, _, .un s, n => .un (Slots.ag A hd s n)
  | _, _, _, .val h s, n => .val (h.ag (A.hid hd)) (Slots.ag A hd s n)
  | _, _, _, .own (l := l) h r s, n => .own (by rw [A.off l fun e => n (e ▸ List.mem_cons_self)]; exact h) (r.ag (A.hid hd)) (Slots.ag A hd s fun q => n (List.mem_cons_of_mem _ q))
  | _, _, _, .dic h s, n => .dic (h.ag A hd) (Slots.ag A hd s fun q => n (List.mem_cons_of_mem _ q))
  | _, _, _, .dk (l := l) ⟨ys, h, r⟩ s, n => .dk ⟨ys, by rw [A.off l fun e => n (e ▸ List.mem_cons_self)]; exact h, r.ag (A.hid hd)⟩ (Slots.ag A hd s fun q => n (List.mem_cons_of_mem _ q))
  | _, _, _, .tw ⟨vs, h, r, q⟩ s, n => .tw ⟨vs, (A.hid hd).sqt h, r.ag (A.hid hd), q.ag A hd⟩ (Slots.ag A hd s fun q => n (List.mem_cons_of_mem _ q))
theorem BagOk.ag {b q : Addr} {n : Nat} (A : Ag d xs H H') (h : BagOk b q n H) : BagOk b q n H' := by
  obtain ⟨t, r, cs, h1, h2, h3⟩ := h
  exact ⟨t, r, cs, by rw [A.off b (A.ne h1 (fun _ => nofun) fun _ _ => nofun)]; exact h1, by rw [A.off q (A.ne h2 (fun _ => nofun) fun _ _ => nofun)]; exact h2, h3⟩
end
section
variable {c : Ctx} {ρ : List SD} {n : Nat} {Ψ : Out} {ts : TS} {g : TG}
/-- a loop over a walk that stands here -/
theorem for_go {P : Hp} {L : List Addr} {σ : List (Option V)} {H : Hp} {Dn : Ends} {J : It} {ds : List D} (E : Env c P L n H σ ρ) (A : Acc c P Ψ Dn) (it : ItOk c J ds (hid (L ++ c.O) H)) (h : ∃ I : Nat → Nat → List SD → Prop, I 0 n ρ ∧
    (∀ k m ρ1 d, ds[k]? = some d → I k m ρ1 → WG c (fun _ _ => True) g d ρ1 m fun ρ2 => WS c ts ρ2 m { nx := I (k + 1), ct := I (k + 1), bk := Ψ.nx, rt := Ψ.rt }) ∧ (∀ m ρ1, I ds.length m ρ1 → Ψ.nx m ρ1)) : tFor (fun _ H R => R J H) g ts Dn σ H := by
  obtain ⟨I, h0, hs, hd⟩ := h
  have E1 := E.pers'
  have pp : Same P (hid (L ++ c.O) H) := E.pers
  have A' : Acc c (hid (L ++ c.O) H) Ψ Dn := { nx := fun L n H σ ρ E k => A.nx L n H σ ρ (E.persOf pp) k, rt := A.rt, bk := fun L n H σ ρ E k => A.bk L n H σ ρ (E.persOf pp) k, ct := fun L n H σ ρ E k => A.ct L n H σ ρ (E.persOf pp) k }
  refine ⟨fun i m σ H1 => m + i = ds.length ∧ ∃ L' n' ρ', Env c (hid (L ++ c.O) H) L' n' H1 σ ρ' ∧ I i n' ρ', ⟨ds.length, rfl, L, n, ρ, E1, h0⟩, ?_⟩
  rintro i m σ' H' ⟨hm, L', n', ρ', E', hI⟩
  by_cases hi : i < ds.length
  · right
    have hg : ds[i]? = some ds[i] := List.getElem?_eq_getElem hi
    obtain ⟨go, yl⟩ := it.go L' n' H' σ' ρ' E' i _ hg
    refine ⟨go, fun σ2 H2 => ∃ L2 n2 ρ2, Env c (hid (L ++ c.O) H) L2 n2 H2 σ2 ρ2 ∧ I (i + 1) n2 ρ2, ?_, ?_⟩
    · rintro σ2 H2 ⟨L2, n2, ρ2, E2, hI2⟩
      exact ⟨m - 1, by omega, by omega, L2, n2, ρ2, E2, hI2⟩
    · intro x H2 hy
      obtain ⟨sm, rx⟩ := yl x H2 hy
      have z := E'.same sm
      refine hs i n' ρ' _ hg hI _ L' σ' H2 x _ (E'.step z.1 z.2) rx fun σ3 ρ3 E3 _ k3 => ?_
      exact k3 _ L' σ3 H2 _ E3 { nx := fun L n H σ ρ E k => ⟨L, n, ρ, E, k⟩, rt := A.rt, bk := fun L n H σ ρ E k => A'.nx L n H σ ρ E k, ct := fun L n H σ ρ E k => ⟨L, n, ρ, E, k⟩ }
  · left
    have e : i = ds.length := by omega
    subst e
    exact ⟨it.stop L' n' H' σ' ρ' E' _ (Nat.le_refl _), A'.nx L' n' H' σ' ρ' E' (hd n' ρ' hI)⟩
def kD : L2.Key → D
  | .inl i => .int i
  | .inr x => .str x
theorem kD_rp {K : PySem.W.Frag} {H : Hp} : ∀ k : L2.Key, Rp K H (kV k) (kD k)
  | .inl i => .int i
  | .inr x => .str x
def keysD (kvs : List (L2.Key × D)) : List D := kvs.map fun kv => kD kv.1
theorem RpKs.keys {K : PySem.W.Frag} {H : Hp} : ∀ {xs : List (L2.Key × V)} {kvs : List (L2.Key × D)}, RpKs K H xs kvs → xs.map (·.1) = kvs.map (·.1)
  | _, _, .nil => rfl
  | _, _, .cons _ r => by rw [List.map_cons, List.map_cons, r.keys]
theorem it_k {d : Addr} {od : Obj} {xs : List (L2.Key × V)} {kvs : List (L2.Key × D)} {P : Hp} (hd : P d = some (.frz od (.dK xs))) (hr : RpKs c.K P xs kvs) : ItOk c (Itk d od xs) (keysD kvs) P where
  go := fun L n H σ ρ E i y hy => by
    unfold keysD at hy
    rw [List.getElem?_map] at hy
    have hp : H d = some (.frz od (.dK xs)) := (hid_some.mp (E.pers d _ hd)).2
    have hkk := hr.keys
    cases hk : kvs[i]? with
    | none => rw [hk] at hy; cases hy
    | some kv =>
      rw [hk] at hy
      have hl : i < xs.length := by rw [hr.length]; exact (List.getElem?_eq_some_iff.mp hk).1
      refine ⟨⟨hp, hl⟩, fun x H' ⟨e1, k, v, e2, e3⟩ => ?_⟩
      subst e1; subst e3
      have e4 : (xs.map (·.1))[i]? = some k := by rw [List.getElem?_map, e2]; rfl
      rw [hkk, List.getElem?_map, hk] at e4
      rw [← Option.some.inj hy, ← Option.some.inj e4]
      exact ⟨Same.refl _, kD_rp _⟩
  stop := fun L n H σ ρ E i hi => by
    unfold keysD at hi
    rw [List.length_map, ← hr.length] at hi
    exact ⟨(hid_some.mp (E.pers d _ hd)).2, hi⟩
/-- for k in d -/
theorem ws_forK {i : Nat} {kvs : List (L2.Key × D)} (h0 : ρ[i]? = some (.val (.dct kvs))) (h : ∀ H0', ∃ I : Nat → Nat → List SD → Prop, I 0 n ρ ∧
    (∀ k m ρ1 d, (keysD kvs)[k]? = some d → I k m ρ1 → WG { c with H0 := H0' } (fun _ _ => True) g d ρ1 m fun ρ2 => WS { c with H0 := H0' } ts ρ2 m { nx := I (k + 1), ct := I (k + 1), bk := Ψ.nx, rt := Ψ.rt }) ∧ (∀ m ρ1, I (keysD kvs).length m ρ1 → Ψ.nx m ρ1)) :
    WS c (tLockOr (tFor (iKeys (tVar i)) g ts)) ρ n Ψ := fun P L σ H Dn E A => by
  obtain ⟨Ls, sl, sb⟩ := E.slots
  obtain ⟨v, hv, rv⟩ := sl.get h0
  cases rv with
  | @dct d xs _ hd rk =>
    rcases hd with hd | ⟨od, hd⟩
    · -- not locked yet
      left
      have hdO : d ∉ L ++ c.O := (hid_some.mp hd).1
      have hdL : d ∉ L := fun q => hdO (List.mem_append_left _ q)
      have hdc : d ∉ c.O := fun q => hdO (List.mem_append_right _ q)
      have hH := (hid_some.mp hd).2
      refine ⟨d, .dK xs, hH, True.intro, fun od => ?_⟩
      have AG : Ag d xs H (upd H d (.frz od (.dK xs))) := ⟨fun a ha => upd_ne ha, .inl hH, .inr ⟨od, upd_same⟩⟩
      generalize hH1 : upd H d (.frz od (.dK xs)) = H1 at AG
      have hd1 : H1 d = some (.frz od (.dK xs)) := by rw [← hH1]; exact upd_same
      -- the context of the loop
      have E' : Env { c with H0 := hid L H1 } (hid (L ++ c.O) H1) L n H1 σ ρ :=
        { nd := E.nd, fresh := fun l hl => ⟨hid_in hl, (E.fresh l hl).2⟩,
          slots := ⟨Ls, sl.ag AG hdO fun q => hdL (sb.subset q), sb⟩,
          lst := fun l hl => by
            rw [AG.off l fun e => hdL (e ▸ hl)]; exact E.lst l hl,
          bag := fun b q hb => (E.bag b q hb).ag AG,
          base := fun a o e => by
            obtain ⟨e1, e2⟩ := hid_some.mp e
            exact hid_some.mpr ⟨e1, (hid_some.mp e2).2⟩,
          pers := Same.refl _, bO := E.bO,
          al := fun o ho => by rw [AG.off o fun e => hdc (e ▸ ho)]; exact E.al o ho }
      -- back to the old context
      have back : ∀ {L2 n2 H2 σ2 ρ2}, Env { c with H0 := hid L H1 } (hid (L ++ c.O) H1) L2 n2 H2 σ2 ρ2 → H2 d = some (.frz od (.dK xs)) ∧ Env c P L2 n2 (upd H2 d (.dK xs)) σ2 ρ2 := fun {L2 n2 H2 σ2 ρ2} E2 => by
        have hd2 : H2 d = some (.frz od (.dK xs)) := (hid_some.mp (E2.pers d _ (hid_some.mpr ⟨hdO, hd1⟩))).2
        have hdL2 : d ∉ L2 := fun q => by
          have := (E2.fresh d q).1
          have z : hid L H1 d = none := this
          rw [hid_out hdL, hd1] at z; cases z
        have hdO2 : d ∉ L2 ++ c.O := fun q => by
          rcases List.mem_append.mp q with q | q
          · exact hdL2 q
          · exact hdc q
        have AG2 : Ag d xs H2 (upd H2 d (.dK xs)) := ⟨fun a ha => upd_ne ha, .inr ⟨od, hd2⟩, .inl upd_same⟩
        have old : ∀ a o, a ∉ L → a ∉ c.B → H a = some o → upd H2 d (.dK xs) a = some o := fun a o ha hb ho => by
          by_cases e : a = d
          · subst e; rw [upd_same, ← ho, hH]
          · rw [upd_ne e]
            have : hid L H1 a = some o := by rw [hid_out ha, AG.off a e]; exact ho
            exact (hid_some.mp (E2.base a o (hid_some.mpr ⟨hb, this⟩))).2
        refine ⟨hd2, ?_⟩
        obtain ⟨Ls2, sl2, sb2⟩ := E2.slots
        exact { nd := E2.nd, fresh := fun l hl => ⟨(by
                  have h1 : hid L H1 l = none := (E2.fresh l hl).1
                  cases hz : c.H0 l with
                  | none => rfl
                  | some o =>
                    have hlL : l ∉ L := fun q => by rw [(E.fresh l q).1] at hz; cases hz
                    have hlB : l ∉ c.B := fun q => (E2.fresh l hl).2 (E.inO q)
                    have := (hid_some.mp (E.base l o (hid_some.mpr ⟨hlB, hz⟩))).2
                    rw [hid_out hlL] at h1
                    by_cases e : l = d
                    · subst e; rw [hd1] at h1; cases h1
                    · rw [AG.off l e, this] at h1; cases h1), (E2.fresh l hl).2⟩,
                slots := ⟨Ls2, sl2.ag AG2 hdO2 fun q => hdL2 (sb2.subset q), sb2⟩,
                lst := fun l hl => by rw [AG2.off l fun e => hdL2 (e ▸ hl)]; exact E2.lst l hl,
                bag := fun b q hb => (E2.bag b q hb).ag AG2,
                base := fun a o e => by
                  obtain ⟨e1, e2⟩ := hid_some.mp e
                  have haL : a ∉ L := fun q => by rw [(E.fresh a q).1] at e2; cases e2
                  exact hid_some.mpr ⟨e1, old a o haL e1 (hid_some.mp (E.base a o e)).2⟩,
                pers := fun a o e => by
                  obtain ⟨e1, e2⟩ := hid_some.mp (E.pers a o e)
                  have haL : a ∉ L := fun q => e1 (List.mem_append_left _ q)
                  have haO : a ∉ c.O := fun q => e1 (List.mem_append_right _ q)
                  refine hid_some.mpr ⟨fun q => ?_, old a o haL (fun q => haO (E.inO q)) e2⟩
                  rcases List.mem_append.mp q with q | q
                  · have h1 : hid L H1 a = none := (E2.fresh a q).1
                    rw [hid_out haL] at h1
                    by_cases e : a = d
                    · subst e; rw [hd1] at h1; cases h1
                    · rw [AG.off a e, e2] at h1; cases h1
                  · exact haO q,
                bO := E.bO,
                al := fun o ho => by rw [AG2.off o fun e => hdc (e ▸ ho)]; exact E2.al o ho }
      have hdB : d ∉ c.B := fun q => hdc (E.inO q)
      refine ⟨.ref d, hv, d, od, rfl, .inl ⟨xs, hd1, ?_⟩⟩
      refine for_go (c := { c with H0 := hid L H1 }) (Ψ := Ψ) (ds := keysD kvs) E' ?_ (it_k (hid_some.mpr ⟨hdO, hd1⟩) (rk.ag (AG.hid hdO))) (h _)
      refine' { nx := fun L2 n2 H2 σ2 ρ2 E2 k => ?nx, rt := fun v y n2 H2 s2 j2 r2 k => ?rt, bk := fun L2 n2 H2 σ2 ρ2 E2 k => ?bk, ct := fun L2 n2 H2 σ2 ρ2 E2 k => ?ct }
      case nx =>
        obtain ⟨b1, b2⟩ := back E2
        exact ⟨b1, A.nx _ _ _ _ _ b2 k⟩
      case bk =>
        obtain ⟨b1, b2⟩ := back E2
        exact ⟨b1, A.bk _ _ _ _ _ b2 k⟩
      case ct =>
        obtain ⟨b1, b2⟩ := back E2
        exact ⟨b1, A.ct _ _ _ _ _ b2 k⟩
      case rt =>
        have hd2 : H2 d = some (.frz od (.dK xs)) := (hid_some.mp (s2 d _ (hid_some.mpr ⟨hdB, by show hid L H1 d = _; rw [hid_out hdL]; exact hd1⟩))).2
        have AG2 : Ag d xs H2 (upd H2 d (.dK xs)) := ⟨fun a ha => upd_ne ha, .inr ⟨od, hd2⟩, .inl upd_same⟩
        refine ⟨hd2, A.rt v y n2 _ (fun a o e => ?_) (fun b q hb => (j2 b q hb).ag AG2) (r2.ag (AG2.hid hdc)) k⟩
        obtain ⟨e1, e2⟩ := hid_some.mp e
        have haL : a ∉ L := fun q => by rw [(E.fresh a q).1] at e2; cases e2
        have ho := (hid_some.mp (E.base a o e)).2
        refine hid_some.mpr ⟨e1, ?_⟩
        by_cases q : a = d
        · subst q; rw [upd_same, ← ho, hH]
        · rw [upd_ne q]
          have : hid L H1 a = some o := by rw [hid_out haL, AG.off a q]; exact ho
          exact (hid_some.mp (s2 a o (hid_some.mpr ⟨e1, this⟩))).2
    · right
      refine ⟨.ref d, hv, d, od, rfl, .inl ⟨xs, (hid_some.mp hd).2, ?_⟩⟩
      exact for_go (c := c) (Ψ := Ψ) (ds := keysD kvs) E.pers' { nx := fun L n H σ ρ E2 k => A.nx L n H σ ρ (E2.persOf E.pers) k, rt := A.rt, bk := fun L n H σ ρ E2 k => A.bk L n H σ ρ (E2.persOf E.pers) k, ct := fun L n H σ ρ E2 k => A.ct L n H σ ρ (E2.persOf E.pers) k } (it_k hd rk) (h c.H0)
end
/-! ### list(d), len(d), isinstance(d, dict), == -/
def rListK (K : PySem.W.Frag) : List V → Hp → VK → Prop := fun vs H Q => ∃ (O : List Addr) (v : V) (kvs : List (L2.Key × D)), vs = [v] ∧ Rp K (hid O H) v (.dct kvs) ∧ ∀ p ys, H p = none → RpAll K (hid O H) ys (keysD kvs) → Q (.ref p) (upd H p (.lst ys))
theorem keysD_rp {K : PySem.W.Frag} {H H' : Hp} : ∀ {xs : List (L2.Key × V)} {kvs : List (L2.Key × D)}, RpKs K H xs kvs → RpAll K H' (xs.map fun kv => kV kv.1) (keysD kvs)
  | _, _, .nil => .nil
  | _, _, .cons _ r => .cons (kD_rp _) (keysD_rp r)
theorem x_listK {X : Cx} (K : PySem.W.Frag) (hc : X.calm = true := by rfl) (hK : X.K = K := by rfl) : CallR X (.type "list") (rListK K) := by
  subst hK
  intro pins s σ H xs us Q I r h
  obtain ⟨O, v, kvs0, e, hx, q⟩ := h
  subst e
  cases hx with
  | @dct p kvs _ hs rk0 =>
    obtain ⟨u, eu, rx⟩ := L2.vals1 r
    subst eu
    obtain rfl : u = Value.ref p := rx
    obtain ⟨z, lo, vs, rk, hd⟩ := (same_rd same_hid hs).ok I.hok
    obtain ⟨ep, hat⟩ := hd.dictAt
    have hl : kvs.length = vs.length := Paired.length rk
    refine PySem.W.kdl_call (PySem.W.kdl_dict (knd := mixKind X.prog X.w) (kvs := vs) (ep := ep) lo) (I.ok.hd hc) hat (by rw [← hl]; exact z) fun h' tk acc' c' hkeep hS hacc => ?_
    refine ⟨.ref s.heap.objs.size, upd H s.heap.objs.size (.lst (kvs.map fun kv => kV kv.1)), I.laid hkeep (Nat.le_refl _) (show ObjOk X.prog X.w _ _ _ (.lst (kvs.map fun kv => kV kv.1)) from ⟨?_, acc'.toList, c', ?_, ?_⟩), rfl, q _ _ (I.hok.fresh (Nat.le_refl _)) (keysD_rp rk0)⟩
    · rw [List.length_map]; exact z
    · have el : acc'.toList.length = acc'.size := by simp
      refine L2.vals_of_at (by rw [List.length_map, el, hacc.1, hl]) fun j x w h1 h2 => ?_
      obtain ⟨k, y, hky, hi⟩ := hacc.2 j w (by rw [← Array.getElem?_toList]; exact h2)
      have e1 : (kvs.map (·.1))[j]? = some k := by
        rw [KV.keys rk, List.getElem?_map, hky] <;> rfl
      have e2 : (kvs.map fun kv => kV kv.1)[j]? = some (kV k) := by
        have e3 : (kvs.map fun kv => kV kv.1) = (kvs.map (·.1)).map kV := by rw [List.map_map] <;> rfl
        rw [e3, List.getElem?_map, e1] <;> rfl
      rw [e2] at h1
      cases h1
      exact keyIs_rel hi
    · rw [Array.toArray_toList]; exact hS
theorem rc_listK {K : PySem.W.Frag} {Φ : D → Prop} {kvs : List (L2.Key × D)} (k : Φ (.lst (keysD kvs))) : RCD K (rListK K) [.dct kvs] Φ := fun O H xs Q rs no q => by
  obtain ⟨v, rfl, r⟩ := rs.one
  exact ⟨O, v, kvs, rfl, r, fun p ys hp ry => q _ _ _ (same_upd_new hp) (.lst (.inl (hid_at (no p hp))) (ry.mono (rp_upd (K := K) hp))) k⟩
def rLenK (K : PySem.W.Frag) : List V → Hp → VK → Prop := fun vs H Q => ∃ (O : List Addr) (v : V) (kvs : List (L2.Key × D)), vs = [v] ∧ Rp K (hid O H) v (.dct kvs) ∧ Q (.int kvs.length) H
theorem x_lenK {X : Cx} (K : PySem.W.Frag) (hK : X.K = K := by rfl) : CallR X (.builtin "len") (rLenK K) := by
  subst hK
  intro pins s σ H xs us Q I r h
  obtain ⟨O, v, kvs, e, hx, q⟩ := h
  subst e
  cases hx with
  | @dct p ys _ hs rk =>
    obtain ⟨u, eu, rx⟩ := L2.vals1 r
    subst eu
    obtain rfl : u = Value.ref p := rx
    refine d_len I (same_rd same_hid hs) fun t s' I' => ⟨.int kvs.length, H, I', ⟨t, by rw [rk.length]⟩, q⟩
theorem rc_lenK {K : PySem.W.Frag} {Φ : D → Prop} {kvs : List (L2.Key × D)} (k : Φ (.int kvs.length)) : RCD K (rLenK K) [.dct kvs] Φ := fun O H xs Q rs no q => by
  obtain ⟨v, rfl, r⟩ := rs.one
  exact ⟨O, v, kvs, rfl, r, q _ _ H (Same.refl _) (.int _) k⟩
theorem rc_isiK {K : PySem.W.Frag} {Φ : D → Prop} {kvs : List (L2.Key × D)} {U : String} {b : Bool} (hk : kitB "dict" U = some b) (k : Φ (.bl b)) : RCD K (rIsi K) [.dct kvs, .ty U] Φ := fun O H xs Q rs no q => by
  obtain ⟨v, u, rfl, r1, r2⟩ := rs.two
  cases r2
  cases r1 with
  | @dct p ys _ hs rk =>
    have ty : TyX K H (.ref p) (.type "dict") := by
      rcases same_rd same_hid hs with e | ⟨o, e⟩
      · exact .base (.dK e)
      · exact .fDict e
    exact ⟨_, .ty U, .type "dict", .type U, b, rfl, .ty U, ty, kit_ty hk, q _ _ H (Same.refl _) (.bl _) k⟩
theorem x_eqK {X : Cx} (K : PySem.W.Frag) (hu : X.A.units + 65 < cLine) (hK : X.K = K := by rfl) : OpR X (compareOp .Eq) (rEqK K false) := by
  subst hK
  intro pins s σ H x y v u Q I rx ry h
  obtain ⟨O, kvs, lvs, hx, hy, hl, hh, q⟩ := h
  cases hx with
  | @dct a ks _ ha ra =>
    cases hy with
    | @dct b ls _ hb rb =>
      cases rx
      cases ry
      obtain ⟨_, ya, va, va', da⟩ := (same_rd same_hid ha).ok I.hok
      obtain ⟨_, yb, vb, vb', db⟩ := (same_rd same_hid hb).ok I.hok
      refine PySem.W.keq_eq (knd := mixKind X.prog X.w) (r := true) ya yb da db (by omega) (fun _ => hitsD (A := X.A) I (by show X.A.units + 1 + 64 < cLine; omega) rb vb' ra va' hh) ?_
      have e : va.length = vb.length := by rw [← va'.length, ← vb'.length, ra.length, rb.length]; exact hl
      rw [show (va.length == vb.length && true) = true from by rw [e]; simp]
      exact ⟨.bl true, H, I, rfl, q⟩
end L3
/-! L3x: comprehensions over a dict whose keys are nested tuples. -/
namespace L3
open PySem L2
/-- the keys of the locked dict at d -/
def ItN (pr : Program) (wd : World) (d : Addr) (o : Obj) (xs : List (NestedKey × Addr × Value)) : It :=
  ⟨fun i H => H d = some (.frz o (.ext (DictBare pr wd xs d))) ∧ i < xs.length, fun i H x H' => H' = H ∧ ∃ y, xs[i]? = some y ∧ x = .ref y.2.1, fun i H => H d = some (.frz o (.ext (DictBare pr wd xs d))) ∧ xs.length ≤ i⟩
theorem frzN {X : Cx} {pins : List (Addr × Obj)} {σ : L2.St} {H : Hp} {s : Shared} {pr : Program} {wd : World} {d : Addr} {o : Obj} {xs : List (NestedKey × Addr × Value)} (I : Inv X pins σ H s) (h : H d = some (.frz o (.ext (DictBare pr wd xs d)))) :
    s.heap.get? d = some o ∧ o.ExactDict ∧ ∃ (es : Array DictEntry) (ep : Nat), o.data = .dict es ep ∧ es.size = xs.length ∧ ∀ (i : Nat) y, xs[i]? = some y → ∃ en, es[i]? = some en ∧ en.key = .ref y.2.1 := by
  obtain ⟨hd, ⟨o', es, ep, e1, e2, e3, e4, e5⟩, _⟩ := I.hok d _ h
  rw [hd] at e1
  cases e1
  refine ⟨hd, e2, es, ep, e3, by rw [← Array.length_toList, e4, List.length_map], fun i y hy => ?_⟩
  refine ⟨entryOfKey (nestedKind pr wd) y, ?_, rfl⟩
  rw [← Array.getElem?_toList, e4, List.getElem?_map, hy]
  rfl
theorem turn_keysN {P : Program} {w : World} {K : PySem.W.Frag} {tg : Expr} {d : Addr} {o : Obj} {es : Array DictEntry} {ep : Nat} {pr : Program} {wd : World} {xs : List (NestedKey × Addr × Value)} (it : Addr) (hod : o.data = .dict es ep) : Turn P w K tg (ItN pr wd d o xs) [it] it (fun i h => h.IsKeyIter it d i xs.length ep) where
  mem := by simp
  obj := fun i h st b hb => by
    have e : b = it := by simpa using hb
    subst e
    obtain ⟨oi, e, c, dd⟩ := st
    exact ⟨oi, e, fun v z => by rw [dd] at z; cases z⟩
  keep := fun i h h' st k => st.at fun oi e => k it (by simp) oi e
  item := by
    intro X hP hw hK hc i pins s σ H E I hf st hg
    subst hP hw hK
    obtain ⟨hd, hi⟩ := hg
    obtain ⟨f0, f1, f2, f3, f4, f5⟩ := hf it (by simp)
    obtain ⟨hgd, hx, es', ep', hdt, hsz, ent⟩ := frzN I hd
    obtain ⟨rfl, rfl⟩ := dict_ep hod hdt
    obtain ⟨y, hy⟩ : ∃ p, xs[i]? = some p := ⟨xs[i], List.getElem?_eq_getElem hi⟩
    obtain ⟨en, hen, hkey⟩ := ent i y hy
    refine next_key_item st hgd hdt hsz hen fun h' st' sb => ?_
    have I1 : Inv X pins σ H { s with heap := h' } := I.turned (t' := s.toks) (fun b ob hb e => (sb.2 b hb).trans e) f0 f1 f3 f4 f5
    obtain ⟨oi, e, c, dd⟩ := id st'
    exact ⟨en.key, rfl, go_of (s := { s with heap := h' }) e c dd (by decide) ⟨.ref y.2.1, H, I1, hkey, ⟨rfl, y, hy, rfl⟩, st', fun b hb => (hf b hb).1⟩⟩
  done := by
    intro X hP hw hK hc i pins s σ H E I hf st hg
    subst hP hw hK
    obtain ⟨hd, hi⟩ := hg
    obtain ⟨f0, f1, f2, f3, f4, f5⟩ := hf it (by simp)
    obtain ⟨hgd, hx, es', ep', hdt, hsz, ent⟩ := frzN I hd
    obtain ⟨rfl, rfl⟩ := dict_ep hod hdt
    exact next_key_end (I.ok.hd hc) st hgd hdt hsz hi fun h' eb => ⟨rfl, I.turned (t' := s.toks) (fun b ob hb e => eb b ob hb e) f0 f1 f3 f4 f5⟩
  self := fun A i s Q E st h => by
    refine wpAny_pyIter_slot st.typeIs F.slot_dict_keyiterator_iter (wpAny_call_entry F.slot_dict_keyiterator_iter st.typeIs F.entry_dict_keyiterator_iter ?_ (F.args_dict_keyiterator_iter_1 _))
    show wpAny _ _ (ret (.ref it)) _ _ s
    exact wpAny_pure ⟨_, rfl, "dict_keyiterator", _, st.typeIs, F.slot_dict_keyiterator_next.lookup, h⟩
def iKeysN (pr : Program) (wd : World) (td : TE) : TI := fun σ H R => td σ H fun x H1 => ∃ d o xs, x = .ref d ∧ (d == sysModules) = false ∧ H1 d = some (.frz o (.ext (DictBare pr wd xs d))) ∧ R (ItN pr wd d o xs) H1
theorem pi_keysN {X : Cx} {tg e : Expr} {td : TE} (pr : Program) (wd : World) (he : PE X e td) : PI X tg e (iKeysN pr wd td) := by
  refine ⟨fun pins s σ H R I h => ?_⟩
  refine thn (he.run pins s σ H _ I h) fun u s1 ⟨x, H1, I1, rx, d, o, xs, ex, hs, hd, q⟩ => ?_
  subst ex
  obtain rfl : u = Value.ref d := rx
  obtain ⟨hgd, hx, es, ep, hdt, hsz, ent⟩ := frzN I1 hd
  refine iter_keys hs hgd hx hdt (pi_one (tk := s1.toks) I1 _ (turn_keysN _ hdt) ⟨_, Heap.get?_push_size _ rfl, rfl, ?_⟩ q)
  rw [hsz] <;> rfl
def tLockEOr (t : TE) : TE := fun σ H Q => tLockE t σ H Q ∨ t σ H Q
theorem pe_lockOr {X : Cx} {e : Expr} {t : TE} (h : PE X e t) : PE X e (tLockEOr t) := by
  refine ⟨fun pins s σ H Q I hw => ?_⟩
  rcases hw with hw | hw
  · exact (pe_lock h).run pins s σ H Q I hw
  · exact h.run pins s σ H Q I hw
/-! ### two heaps that agree but for the lock of one such dict -/
def NC (φ : Heap → Prop) (o : Option HO) : Prop := o = some (.ext φ) ∨ ∃ od, o = some (.frz od (.ext φ))
structure AgN (d : Addr) (φ : Heap → Prop) (H H' : Hp) : Prop where
  off : ∀ a, a ≠ d → H' a = H a
  a1 : NC φ (H d)
  a2 : NC φ (H' d)
section
variable {d : Addr} {φ : Heap → Prop} {H H' : Hp}
theorem AgN.symm (A : AgN d φ H H') : AgN d φ H' H := ⟨fun a h => (A.off a h).symm, A.a2, A.a1⟩
theorem AgN.hid {O : List Addr} (A : AgN d φ H H') (h : d ∉ O) : AgN d φ (hid O H) (hid O H') := ⟨fun a ha => by
  unfold L3.hid
  by_cases q : a ∈ O
  · rw [if_pos q, if_pos q]
  · rw [if_neg q, if_neg q]; exact A.off a ha, by rw [hid_out h]; exact A.a1, by rw [hid_out h]; exact A.a2⟩
theorem AgN.lst (A : AgN d φ H H') {a : Addr} {ys : List V} (h : Rd H a (.lst ys)) : Rd H' a (.lst ys) := by
  have ne : a ≠ d := fun e => by
    subst e
    rcases h with h | ⟨o, h⟩ <;> rcases A.a1 with q | ⟨od, q⟩ <;> (rw [h] at q; cases q)
  unfold Rd
  rw [A.off a ne]; exact h
theorem AgN.tup (A : AgN d φ H H') {a : Addr} {ys : List V} (h : Rd H a (.tup ys)) : Rd H' a (.tup ys) := by
  have ne : a ≠ d := fun e => by
    subst e
    rcases h with h | ⟨o, h⟩ <;> rcases A.a1 with q | ⟨od, q⟩ <;> (rw [h] at q; cases q)
  unfold Rd
  rw [A.off a ne]; exact h
theorem AgN.sqt (A : AgN d φ H H') {K : PySem.W.Frag} {a : Addr} {ys : List V} (h : SqT K H a ys) : SqT K H' a ys := by
  rcases h with h | h
  · exact .inl (A.tup h)
  · exact .inr h
theorem AgN.dK (A : AgN d φ H H') {a : Addr} {ys : List (L2.Key × V)} (h : Rd H a (.dK ys)) : Rd H' a (.dK ys) := by
  have ne : a ≠ d := fun e => by
    subst e
    rcases h with h | ⟨o, h⟩ <;> rcases A.a1 with q | ⟨od, q⟩ <;> (rw [h] at q; cases q)
  unfold Rd
  rw [A.off a ne]; exact h
theorem AgN.ne {a : Addr} {o : HO} (A : AgN d φ H H') (h : H a = some o) (n1 : ∀ ys, o ≠ .ext ys) (n2 : ∀ od u, o ≠ .frz od u) : a ≠ d := fun e => by
  subst e
  rcases A.a1 with q | ⟨od, q⟩
  · rw [h] at q; exact n1 _ (Option.some.inj q)
  · rw [h] at q; exact n2 _ _ (Option.some.inj q)
theorem AgN.ins (A : AgN d φ H H') {a C dx : Addr} {fs : List (Str × V)} (h : H a = some (.ins C dx fs)) : H' a = some (.ins C dx fs) := by
  rw [A.off a (A.ne h (fun _ => nofun) fun _ _ => nofun)]; exact h
theorem AgN.rext (A : AgN d φ H H') {a : Addr} {ψ : Heap → Prop} (h : Rd H a (.ext ψ)) : Rd H' a (.ext ψ) := by
  by_cases e : a = d
  · subst e
    have ey : ψ = φ := by rcases h with h | ⟨o, h⟩ <;> rcases A.a1 with q | ⟨od, q⟩ <;> (rw [h] at q; cases q; try rfl)
    subst ey
    rcases A.a2 with q | ⟨od, q⟩
    · exact .inl q
    · exact .inr ⟨od, q⟩
  · unfold Rd
    rw [A.off a e]; exact h
mutual
theorem Rp.agN {K : PySem.W.Frag} {d : Addr} {φ : Heap → Prop} {H H' : Hp} (A : AgN d φ H H') : ∀ {v : V} {x : D}, Rp K H v x → Rp K H' v x
  | _, _, .non => .non
  | _, _, .bl b => .bl b
  | _, _, .int i => .int i
  | _, _, .str x => .str x
  | _, _, .lst h r => .lst (A.lst h) (RpAll.agN A r)
  | _, _, .tup h r => .tup (A.sqt h) (RpAll.agN A r)
  | _, _, .obj h r => .obj (A.ins h) (RpFs.agN A r)
  | _, _, .adr a => .adr a
  | _, _, .ty n => .ty n
  | _, _, .dct h r => .dct (A.dK h) (RpKs.agN A r)
  | _, _, .dcn h s r => .dcn (A.rext h) s (RpNs.agN A r)
theorem RpAll.agN {K : PySem.W.Frag} {d : Addr} {φ : Heap → Prop} {H H' : Hp} (A : AgN d φ H H') : ∀ {vs : List V} {ds : List D}, RpAll K H vs ds → RpAll K H' vs ds
  | _, _, .nil => .nil
  | _, _, .cons h r => .cons (Rp.agN A h) (RpAll.agN A r)
theorem RpFs.agN {K : PySem.W.Frag} {d : Addr} {φ : Heap → Prop} {H H' : Hp} (A : AgN d φ H H') : ∀ {vs : List (Str × V)} {ds : List (Str × D)}, RpFs K H vs ds → RpFs K H' vs ds
  | _, _, .nil => .nil
  | _, _, .cons h r => .cons (Rp.agN A h) (RpFs.agN A r)
theorem RpKs.agN {K : PySem.W.Frag} {d : Addr} {φ : Heap → Prop} {H H' : Hp} (A : AgN d φ H H') : ∀ {vs : List (L2.Key × V)} {ds : List (L2.Key × D)}, RpKs K H vs ds → RpKs K H' vs ds
  | _, _, .nil => .nil
  | _, _, .cons h r => .cons (Rp.agN A h) (RpKs.agN A r)
theorem RpNs.agN {K : PySem.W.Frag} {d : Addr} {φ : Heap → Prop} {H H' : Hp} (A : AgN d φ H H') : ∀ {vs : List (NestedKey × Addr × Value)} {ds : List (D × D)}, RpNs K H vs ds → RpNs K H' vs ds
  | _, _, .nil => .nil
  | _, _, .cons a b h w v r => .cons a b (Rp.agN A h) w (Rp.agN A v) (RpNs.agN A r)
end
theorem NDict.agN {pr : Program} {wd : World} {K : PySem.W.Frag} {O : List Addr} {l : Addr} {kvs : List (D × D)} (A : AgN d φ H H') (hd : d ∉ O) (ne : l ≠ d) (h : NDict pr wd K O H l kvs) : NDict pr wd K O H' l kvs := by
  obtain ⟨ys, h1, h2, h3⟩ := h
  exact ⟨ys, (A.off l ne).trans h1, h2, ((RpNs.of h3).agN (A.hid hd)).pair⟩
theorem Slots.agN {pr : Program} {wd : World} {K : PySem.W.Frag} {O : List Addr} (A : AgN d φ H H') (hd : d ∉ O) : ∀ {σ : List (Option V)} {ρ : List SD} {L : List Addr}, Slots pr wd K O H σ ρ L → d ∉ L → Slots pr wd K O H' σ ρ L
  | _, _, _, .nil, _ => .nil
  | _, _, _, .un s, n => .un (Slots.agN A hd s n)
  | _, _, _, .val h s, n => .val (h.agN (A.hid hd)) (Slots.agN A hd s n)
  | _, _, _, .own (l := l) h r s, n => .own (by rw [A.off l fun e => n (e ▸ List.mem_cons_self)]; exact h) (r.agN (A.hid hd)) (Slots.agN A hd s fun q => n (List.mem_cons_of_mem _ q))
  | _, _, _, .dic (l := l) h s, n => .dic (h.agN A hd fun e => n (e ▸ List.mem_cons_self)) (Slots.agN A hd s fun q => n (List.mem_cons_of_mem _ q))
  | _, _, _, .dk (l := l) ⟨ys, h, r⟩ s, n => .dk ⟨ys, by rw [A.off l fun e => n (e ▸ List.mem_cons_self)]; exact h, r.agN (A.hid hd)⟩ (Slots.agN A hd s fun q => n (List.mem_cons_of_mem _ q))
  | _, _, _, .tw (l := l) ⟨vs, h, r, q⟩ s, n => .tw ⟨vs, (A.hid hd).sqt h, r.agN (A.hid hd), q.agN A hd fun e => n (e ▸ List.mem_cons_self)⟩ (Slots.agN A hd s fun q => n (List.mem_cons_of_mem _ q))
theorem BagOk.agN {b q : Addr} {n : Nat} (A : AgN d φ H H') (h : BagOk b q n H) : BagOk b q n H' := by
  obtain ⟨t, r, cs, h1, h2, h3⟩ := h
  exact ⟨t, r, cs, by rw [A.off b (A.ne h1 (fun _ => nofun) fun _ _ => nofun)]; exact h1, by rw [A.off q (A.ne h2 (fun _ => nofun) fun _ _ => nofun)]; exact h2, h3⟩
end
section
variable {c : Ctx} {ρ : List SD} {n : Nat} {g : TG} {te : TE} {t : TT} {vs : List Nat}
def keysN (kvs : List (D × D)) : List D := kvs.map (·.1)
theorem RpNs.len {K : PySem.W.Frag} {H : Hp} : ∀ {xs : List (NestedKey × Addr × Value)} {kvs : List (D × D)}, RpNs K H xs kvs → xs.length = kvs.length
  | _, _, .nil => rfl
  | _, _, .cons _ _ _ _ _ r => by rw [List.length_cons, List.length_cons, r.len]
theorem RpNs.key {K : PySem.W.Frag} {H : Hp} : ∀ {xs : List (NestedKey × Addr × Value)} {kvs : List (D × D)} {i : Nat} {kv : D × D}, RpNs K H xs kvs → kvs[i]? = some kv → ∃ y, xs[i]? = some y ∧ Rp K H (.ref y.2.1) kv.1
  | _, _, _, _, .nil, e => by simp at e
  | _, _, 0, _, .cons _ _ h _ _ _, e => by simp at e; subst e; exact ⟨_, rfl, h⟩
  | _, _, i + 1, _, .cons _ _ _ _ _ r, e => by
    obtain ⟨y, h1, h2⟩ := RpNs.key (i := i) r (by simpa using e)
    exact ⟨y, by simpa using h1, h2⟩
theorem it_n {pr : Program} {wd : World} {d : Addr} {od : Obj} {xs : List (NestedKey × Addr × Value)} {kvs : List (D × D)} {P : Hp} (hd : P d = some (.frz od (.ext (DictBare pr wd xs d)))) (hr : RpNs c.K P xs kvs) : ItOk c (ItN pr wd d od xs) (keysN kvs) P where
  go := fun L n H σ ρ E i y hy => by
    unfold keysN at hy
    rw [List.getElem?_map] at hy
    have hp : H d = some (.frz od (.ext (DictBare pr wd xs d))) := (hid_some.mp (E.pers d _ hd)).2
    cases hk : kvs[i]? with
    | none => rw [hk] at hy; cases hy
    | some kv =>
      rw [hk] at hy
      cases hy
      have hl : i < xs.length := by rw [hr.len]; exact (List.getElem?_eq_some_iff.mp hk).1
      refine ⟨⟨hp, hl⟩, fun x H' ⟨e1, y, e2, e3⟩ => ?_⟩
      subst e1; subst e3
      obtain ⟨y', g1, g2⟩ := hr.key hk
      rw [g1] at e2
      cases e2
      exact ⟨Same.refl _, g2.mono E.pers⟩
  stop := fun L n H σ ρ E i hi => by
    unfold keysN at hi
    rw [List.length_map, ← hr.len] at hi
    exact ⟨(hid_some.mp (E.pers d _ hd)).2, hi⟩
/-- the comprehension's part -/
def LcN (c : Ctx) (g : TG) (t : TT) (te : TE) (vs : List Nat) (ρ : List SD) (n : Nat) (ds : List D) (Φ : Nat → List D → Prop) : Prop := ∃ I : Nat → Nat → List D → Prop, I 0 n [] ∧
    (∀ k m acc d, ds[k]? = some d → I k m acc → WG c (RW vs) g d (wipeR ρ vs) m fun ρ2 => WT c t ρ2 m fun m2 b => if b = true then WE c te ρ2 m2 fun m3 y => acc.length < sizeLine ∧ I (k + 1) m3 (acc ++ [y]) else I (k + 1) m2 acc) ∧
    (∀ m acc, I ds.length m acc → Φ m acc)
/-- a comprehension over a walk that stands here -/
theorem lc_go {Φ : Nat → List D → Prop} {ds : List D} {P : Hp} {L : List Addr} {σ : List (Option V)} {H : Hp} {Q : VK} {J : It} (E : Env c P L n H σ ρ) (it : ItOk c J ds (hid (L ++ c.O) H)) (h : LcN c g t te vs ρ n ds Φ)
    (q : ∀ p xs ds n' H', Same (hid c.B H) (hid c.B H') → H p = none → H' p = some (.lst xs) → RpAll c.K (hid (p :: (L ++ c.O)) H') xs ds → c.J n' H' → Φ n' ds → Q (.ref p) H') : tLc (fun _ H R => R J H) g t te vs σ H Q := by
  obtain ⟨I, h0, hs, hd⟩ := h
  intro D hD
  have E1 := E.pers'
  obtain ⟨Ls, sl, sb⟩ := E1.slots
  obtain ⟨Lw, slw, sbw⟩ := sl.wipe vs
  have Ew : Env c (hid (L ++ c.O) H) L n H (wipe σ vs) (wipeR ρ vs) := E1.reslot slw (sbw.trans sb)
  have E2 := Ew.newOwn (xs := []) hD
  have DnL : D ∉ L := (E1.new hD).2.2
  -- the loop's invariant
  refine ⟨fun i m H' => m + i = ds.length ∧ ∃ n' xs acc, Env c (hid (L ++ c.O) H) (D :: L) n' H' (wipe σ vs) (wipeR ρ vs) ∧ H' D = some (.lst xs) ∧ RpAll c.K (hid ((D :: L) ++ c.O) H') xs acc ∧ Same (hid c.B H) (hid c.B H') ∧ I i n' acc, ⟨ds.length, rfl, n, [], [], E2, upd_same, .nil, (E1.newT hD).1, h0⟩, ?_⟩
  rintro i m H' ⟨hm, n', xs, acc, E', hDx, hacc, sB, hI⟩
  by_cases hi : i < ds.length
  · right
    have hg : ds[i]? = some ds[i] := List.getElem?_eq_getElem hi
    obtain ⟨go, yl⟩ := it.go (D :: L) n' H' _ _ E' i _ hg
    refine ⟨go, fun H2 => ∃ n' xs acc, Env c (hid (L ++ c.O) H) (D :: L) n' H2 (wipe σ vs) (wipeR ρ vs) ∧ H2 D = some (.lst xs) ∧ RpAll c.K (hid ((D :: L) ++ c.O) H2) xs acc ∧ Same (hid c.B H) (hid c.B H2) ∧ I (i + 1) n' acc, ?_, ?_⟩
    · rintro H2 ⟨n2, xs2, acc2, a1, a2, a3, a4, a5⟩
      exact ⟨m - 1, by omega, by omega, n2, xs2, acc2, a1, a2, a3, a4, a5⟩
    · intro x H2 hy
      obtain ⟨sm, rx⟩ := yl x H2 hy
      have z := E'.same sm
      have E2' := E'.step z.1 z.2
      refine hs i n' acc _ hg hI _ (D :: L) _ H2 x _ E2' rx fun σ3 ρ3 E3 hw k3 => ?_
      refine ⟨hw.trans (wipe_idem σ vs), ?_⟩
      refine k3 _ (D :: L) σ3 H2 _ E3 fun b n4 H4 s4 j4 k4 => ?_
      have back : ∀ {H5 : Hp} {n5 : Nat}, Same (hid c.B H2) (hid c.B H5) → c.J n5 H5 → Env c (hid (L ++ c.O) H) (D :: L) n5 H5 (wipe σ vs) (wipeR ρ vs) := fun s5 j5 => E2'.step s5 j5
      have own : ∀ {H5 : Hp}, Same (hid c.B H2) (hid c.B H5) → H5 D = some (.lst xs) := fun s5 => by
        rw [E2'.own s5 D List.mem_cons_self]
        exact sm D _ hDx
      have accs : ∀ {H5 : Hp}, Same (hid c.B H2) (hid c.B H5) → RpAll c.K (hid ((D :: L) ++ c.O) H5) xs acc := fun s5 => (hacc.mono (same_hid_of sm)).mono (E2'.sameLO s5)
      cases b with
      | false =>
        rw [if_neg Bool.false_ne_true] at k4 ⊢
        exact ⟨n4, xs, acc, back s4 j4, own s4, accs s4, (sB.trans z.1).trans s4, k4⟩
      | true =>
        rw [if_pos rfl] at k4 ⊢
        refine k4 _ (D :: L) σ3 H4 _ (E3.step s4 j4) fun y d n5 H5 s5 j5 r5 ⟨hz, k5⟩ => ?_
        have s45 := s4.trans s5
        refine ⟨xs, own s45, by rw [hacc.length]; exact hz, n5, xs ++ [y], acc ++ [d], ?_, upd_same, ?_, ?_, k5⟩
        · have Eb := back s45 j5
          obtain ⟨Ls5, sl5, sb5⟩ := Eb.slots
          have e5 := sl5.inj slw
          subst e5
          exact Eb.grow List.mem_cons_self sl5 sb5 fun q => DnL ((sbw.trans sb).subset q)
        · have hm : D ∈ (D :: L) ++ c.O := List.mem_append_left _ List.mem_cons_self
          rw [hid_upd_in hm]
          exact (accs s45).append (.cons r5 .nil)
        · exact same_upd_old hD ((sB.trans z.1).trans s45)
  · left
    have e : i = ds.length := by omega
    subst e
    refine ⟨it.stop (D :: L) n' H' _ _ E' _ (Nat.le_refl _), ?_⟩
    exact q D xs acc n' H' sB hD hDx hacc E'.bag (hd n' acc hI)

/-- [.. for .. in w[0]] -/
theorem wf_lcN {i : Nat} {kvs : List (D × D)} {ds : List D} {Φ : Nat → List D → Prop} (h0 : ρ[i]? = some (.val (.tup (.dcn c.pr c.wd kvs :: ds)))) (h : ∀ H0', LcN { c with H0 := H0' } g t te vs ρ n (keysN kvs) Φ) :
    WF c (tLockEOr (tLc (iKeysN c.pr c.wd (tOp (rIx c.K) (tVar i) (tC (.int 0)))) g t te vs)) ρ n Φ := fun P L σ H Q E q => by
  obtain ⟨Ls, sl, sb⟩ := E.slots
  obtain ⟨v, hv, rv⟩ := sl.get h0
  cases rv with
  | @tup a ws _ hsq rws =>
    cases rws with
    | @cons _ vs' _ _ r1 rr =>
      cases r1 with
      | @dcn d _ _ xs _ hd hsys rk =>
        have hix : ∀ (H2 : Hp) (R : V → Hp → Prop), SqT c.K H2 a (.ref d :: vs') → R (.ref d) H2 → tOp (rIx c.K) (tVar i) (tC (.int 0)) σ H2 R := fun H2 R h1 h2 => ⟨.ref a, hv, .inr (.inl ⟨a, _, 0, .ref d, rfl, rfl, h1, atI_nat (xs := V.ref d :: vs') (j := 0) rfl, h2⟩)⟩
        rcases hd with hd | ⟨od, hd⟩
        · -- not locked yet
          left
          have hdO : d ∉ L ++ c.O := (hid_some.mp hd).1
          have hdL : d ∉ L := fun q => hdO (List.mem_append_left _ q)
          have hdc : d ∉ c.O := fun q => hdO (List.mem_append_right _ q)
          have hH := (hid_some.mp hd).2
          refine ⟨d, .ext (DictBare c.pr c.wd xs d), hH, True.intro, fun od => ?_⟩
          have AG : AgN d (DictBare c.pr c.wd xs d) H (upd H d (.frz od (.ext (DictBare c.pr c.wd xs d)))) := ⟨fun a ha => upd_ne ha, .inl hH, .inr ⟨od, upd_same⟩⟩
          generalize hH1 : upd H d (.frz od (.ext (DictBare c.pr c.wd xs d))) = H1 at AG
          have hd1 : H1 d = some (.frz od (.ext (DictBare c.pr c.wd xs d))) := by rw [← hH1]; exact upd_same
          have E' : Env { c with H0 := hid L H1 } (hid (L ++ c.O) H1) L n H1 σ ρ :=
            { nd := E.nd, fresh := fun l hl => ⟨hid_in hl, (E.fresh l hl).2⟩,
              slots := ⟨Ls, sl.agN AG hdO fun q => hdL (sb.subset q), sb⟩,
              lst := fun l hl => by
                rw [AG.off l fun e => hdL (e ▸ hl)]; exact E.lst l hl,
              bag := fun b q hb => (E.bag b q hb).agN AG,
              base := fun a o e => by
                obtain ⟨e1, e2⟩ := hid_some.mp e
                exact hid_some.mpr ⟨e1, (hid_some.mp e2).2⟩,
              pers := Same.refl _, bO := E.bO,
              al := fun o ho => by rw [AG.off o fun e => hdc (e ▸ ho)]; exact E.al o ho }
          refine hix H1 _ (AG.sqt (same_t same_hid hsq)) ⟨d, od, xs, rfl, hsys, hd1, ?_⟩
          show tLc (fun _ H R => R (ItN c.pr c.wd d od xs) H) g t te vs σ H1 (fun v H' => H' d = some (.frz od (.ext (DictBare c.pr c.wd xs d))) ∧ Q v (upd H' d (.ext (DictBare c.pr c.wd xs d))))
          refine lc_go (c := { c with H0 := hid L H1 }) (P := hid (L ++ c.O) H1) (L := L) (J := ItN c.pr c.wd d od xs) E' (it_n (hid_some.mpr ⟨hdO, hd1⟩) (rk.agN (AG.hid hdO))) (h _) fun p ys es n2 H2 s2 hp hp2 r2 j2 k => ?_
          have hdB : d ∉ c.B := fun q => hdc (E.inO q)
          have hd2 : H2 d = some (.frz od (.ext (DictBare c.pr c.wd xs d))) := (hid_some.mp (s2 d _ (hid_some.mpr ⟨hdB, hd1⟩))).2
          have AG2 : AgN d (DictBare c.pr c.wd xs d) H2 (upd H2 d (.ext (DictBare c.pr c.wd xs d))) := ⟨fun a ha => upd_ne ha, .inr ⟨od, hd2⟩, .inl upd_same⟩
          have npd : p ≠ d := fun e => by rw [e, hd1] at hp; cases hp
          refine ⟨hd2, q p ys es n2 _ (fun a o e => ?_) ?_ (by rw [upd_ne npd]; exact hp2) (r2.agN (AG2.hid fun q => ?_)) (fun b q hb => (j2 b q hb).agN AG2) k⟩
          · obtain ⟨e1, e2⟩ := hid_some.mp e
            refine hid_some.mpr ⟨e1, ?_⟩
            by_cases q : a = d
            · subst q; rw [upd_same, ← e2, hH]
            · rw [upd_ne q]
              have : H1 a = some o := by rw [AG.off a q]; exact e2
              exact (hid_some.mp (s2 a o (hid_some.mpr ⟨e1, this⟩))).2
          · rw [← AG.off p npd]; exact hp
          · rcases List.mem_cons.mp q with q | q
            · exact npd q.symm
            · exact hdO q
        · right
          refine hix H _ (same_t same_hid hsq) ⟨d, od, xs, rfl, hsys, (hid_some.mp hd).2, ?_⟩
          show tLc (fun _ H R => R (ItN c.pr c.wd d od xs) H) g t te vs σ H Q
          exact lc_go (c := c) (L := L) (J := ItN c.pr c.wd d od xs) E.pers' (it_n hd rk) (h c.H0) q
end
end L3
/-! L3y: isinstance of a tuple of types; {k: v for ..}. -/
namespace L3
open PySem L2
def rIsi2 (K : PySem.W.Frag) : List V → Hp → VK → Prop := fun xs H Q => ∃ (x : V) (tp : Addr) (cs : List V) (t : Value) (us : List Value) (b : Bool), xs = [x, .ref tp] ∧ SqT K H tp cs ∧ Paired ClsV cs us ∧ TyX K H x t ∧ PySem.W.kitAny K t us = some b ∧ Q (.bl b) H
theorem x_isi2 {X : Cx} (K : PySem.W.Frag) (hK : X.K = K := by rfl) : CallR X (.builtin "isinstance") (rIsi2 K) := by
  subst hK
  intro pins s σ H xs us Q I r h
  obtain ⟨x, tp, cs, t, ws, b, rfl, hT, k, ty, e, q⟩ := h
  obtain ⟨u1, u2, rfl, r1, r2⟩ := vals2 r
  cases (show u2 = Value.ref tp from r2)
  obtain ⟨P, Z, p, hx⟩ := kit_of I r1 ty
  rcases hT with hT | ⟨o, its, n, hk, hc, hd, _, rv⟩
  · obtain ⟨_, its, rv, o, h1, h2, n, h3⟩ := hT.ok I.hok
    have e3 := ClsV.all k rv
    subst e3
    obtain ⟨oc, od, dt, sl⟩ := o
    simp only at h2 h3
    subst h2 h3
    exact PySem.W.kia_tup Z I.kIn p h1 e hx fun tk => ⟨.bl b, H, I.tok tk, rfl, q⟩
  · have e3 := ClsV.all k rv
    subst e3
    have h1 := I.kIn _ _ hk
    obtain ⟨oc, od, dt, sl⟩ := o
    obtain ⟨il⟩ := its
    simp only at hc hd
    subst hc hd
    exact PySem.W.kia_tup Z I.kIn p h1 e hx fun tk => ⟨.bl b, H, I.tok tk, rfl, q⟩
theorem rp_tys {K : PySem.W.Frag} {H : Hp} : ∀ {vs : List V} {Us : List String}, RpAll K H vs (Us.map .ty) → Paired ClsV vs (Us.map Value.type)
  | _, [], h => by cases h; exact .nil
  | _, U :: Us, h => by
    cases h with
    | cons h r => cases h; exact .cons (.ty U) (rp_tys r)
theorem rc_isi2 {K : PySem.W.Frag} {Φ : D → Prop} {d : D} {T : String} {Us : List String} {b : Bool} (h : tyD d = some T) (hk : PySem.W.kitAny K (.type T) (Us.map Value.type) = some b) (k : Φ (.bl b)) : RCD K (rIsi2 K) [d, .tup (Us.map .ty)] Φ := fun O H xs Q rs no q => by
  obtain ⟨v, u, rfl, r1, r2⟩ := rs.two
  cases r2 with
  | tup hs ha => exact ⟨v, _, _, .type T, _, b, rfl, same_t same_hid hs, rp_tys ha, tyD_X r1 h, hk, q _ _ H (Same.refl _) (.bl _) k⟩
theorem kit_rowL {K : PySem.W.Frag} : PySem.W.kitAny K (.type "list") (["list", "tuple"].map Value.type) = some true := kitAny_cons (b := true) (kit_ty (by decide +kernel)) nofun fun _ => rfl
theorem kit_rowT {K : PySem.W.Frag} : PySem.W.kitAny K (.type "tuple") (["list", "tuple"].map Value.type) = some true := kitAny_cons (b := false) (kit_ty (by decide +kernel)) (fun _ => kitAny_cons (b := true) (kit_ty (by decide +kernel)) nofun fun _ => rfl) nofun
section
variable {c : Ctx} {ρ : List SD} {n : Nat} {g : TG} {tk tv : TE} {t : TT} {vs : List Nat}
/-- a new thing of one's own changes -/
theorem Env.growAny {P : Hp} {L : List Addr} {n : Nat} {H : Hp} {σ : List (Option V)} {D : Addr} {u : HO} {Ls : List Addr} (E : Env c P L n H σ ρ) (hD : D ∈ L) (sl : Slots c.pr c.wd c.K (L ++ c.O) H σ ρ Ls) (sb : Ls.Sublist L) (hn : D ∉ Ls) : Env c P L n (upd H D u) σ ρ := by
  have hm : D ∈ L ++ c.O := List.mem_append_left _ hD
  have hB : D ∉ c.B := E.notB hD
  have hO : D ∉ c.O := (E.fresh D hD).2
  exact { nd := E.nd, fresh := E.fresh,
          slots := ⟨Ls, sl.move (fun l hl => upd_ne fun e => hn (e ▸ hl)) (by rw [hid_upd_in hm]; exact Same.refl _), sb⟩,
          lst := fun l hl => by
            by_cases e : l = D
            · exact ⟨_, by rw [e, upd_same]⟩
            · rw [upd_ne e]; exact E.lst l hl,
          bag := fun b q hb => (E.bag b q hb).move (fun o h => by rw [upd_ne fun e : b = D => hO (e ▸ (E.bO b q hb).1)]; exact h) fun o h => by rw [upd_ne fun e : q = D => hO (e ▸ (E.bO b q hb).2.1)]; exact h,
          base := fun a o h => by
            have h0 : c.H0 D = none := (E.fresh D hD).1
            have ne : a ≠ D := fun e => by
              rw [e, hid_some] at h
              rw [h0] at h
              cases h.2
            obtain ⟨h1, h2⟩ := hid_some.mp (E.base a o h)
            exact hid_some.mpr ⟨h1, by rw [upd_ne ne]; exact h2⟩,
          pers := by rw [hid_upd_in hm]; exact E.pers,
          bO := E.bO,
          al := fun o ho => by rw [upd_ne fun e : o = D => hO (e ▸ ho)]; exact E.al o ho }
/-- {k: v for ..} -/
theorem we_dc {wi : TI} {Φ : Nat → D → Prop} (h : WI c wi ρ n fun n1 ds => ∃ I : Nat → Nat → List (L2.Key × D) → Prop, I 0 n1 [] ∧
    (∀ k m acc d, ds[k]? = some d → I k m acc → WG c (RW vs) g d (wipeR ρ vs) m fun ρ2 => WT c t ρ2 m fun m2 b => if b = true then WE c tk ρ2 m2 fun m3 y => WE c tv ρ2 m3 fun m4 z => ∃ key, y = kD key ∧ acc.length < sizeLine ∧ I (k + 1) m4 (putKD acc key z) else I (k + 1) m2 acc) ∧
    (∀ m acc, I ds.length m acc → Φ m (.dct acc))) : WE c (tDc wi g t tk tv vs) ρ n Φ := fun P L σ H Q E q => by
  refine h P L σ H _ E fun J ds n1 H1 s1 j1 it ⟨I, h0, hs, hd⟩ => ?_
  intro D hD
  have E1 := (E.step s1 j1).pers'
  obtain ⟨Ls, sl, sb⟩ := E1.slots
  obtain ⟨Lw, slw, sbw⟩ := sl.wipe vs
  have Ew : Env c (hid (L ++ c.O) H1) L n1 H1 (wipe σ vs) (wipeR ρ vs) := E1.reslot slw (sbw.trans sb)
  have E2 := Ew.newAny (o := .dK []) hD
  have DnL : D ∉ L := (E1.new hD).2.2
  have DnO : D ∉ L ++ c.O := E1.noO D hD
  refine ⟨fun i m H' => m + i = ds.length ∧ ∃ n' xs acc, Env c (hid (L ++ c.O) H1) (D :: L) n' H' (wipe σ vs) (wipeR ρ vs) ∧ H' D = some (.dK xs) ∧ RpKs c.K (hid ((D :: L) ++ c.O) H') xs acc ∧ Same (hid c.B H1) (hid c.B H') ∧ I i n' acc, ⟨ds.length, rfl, n1, [], [], E2, upd_same, .nil, (E1.newT hD).1, h0⟩, ?_⟩
  rintro i m H' ⟨hm, n', xs, acc, E', hDx, hacc, sB, hI⟩
  by_cases hi : i < ds.length
  · right
    have hg : ds[i]? = some ds[i] := List.getElem?_eq_getElem hi
    obtain ⟨go, yl⟩ := it.go (D :: L) n' H' _ _ E' i _ hg
    refine ⟨go, fun H2 => ∃ n' xs acc, Env c (hid (L ++ c.O) H1) (D :: L) n' H2 (wipe σ vs) (wipeR ρ vs) ∧ H2 D = some (.dK xs) ∧ RpKs c.K (hid ((D :: L) ++ c.O) H2) xs acc ∧ Same (hid c.B H1) (hid c.B H2) ∧ I (i + 1) n' acc, ?_, ?_⟩
    · rintro H2 ⟨n2, xs2, acc2, a1, a2, a3, a4, a5⟩
      exact ⟨m - 1, by omega, by omega, n2, xs2, acc2, a1, a2, a3, a4, a5⟩
    · intro x H2 hy
      obtain ⟨sm, rx⟩ := yl x H2 hy
      have z := E'.same sm
      have E2' := E'.step z.1 z.2
      refine hs i n' acc _ hg hI _ (D :: L) _ H2 x _ E2' rx fun σ3 ρ3 E3 hw k3 => ?_
      refine ⟨hw.trans (wipe_idem σ vs), ?_⟩
      refine k3 _ (D :: L) σ3 H2 _ E3 fun b n4 H4 s4 j4 k4 => ?_
      have back : ∀ {H5 : Hp} {n5 : Nat}, Same (hid c.B H2) (hid c.B H5) → c.J n5 H5 → Env c (hid (L ++ c.O) H1) (D :: L) n5 H5 (wipe σ vs) (wipeR ρ vs) := fun s5 j5 => E2'.step s5 j5
      have own : ∀ {H5 : Hp}, Same (hid c.B H2) (hid c.B H5) → H5 D = some (.dK xs) := fun s5 => by
        rw [E2'.own s5 D List.mem_cons_self]
        exact sm D _ hDx
      have accs : ∀ {H5 : Hp}, Same (hid c.B H2) (hid c.B H5) → RpKs c.K (hid ((D :: L) ++ c.O) H5) xs acc := fun s5 => (hacc.mono (same_hid_of sm)).mono (E2'.sameLO s5)
      cases b with
      | false =>
        rw [if_neg Bool.false_ne_true] at k4 ⊢
        exact ⟨n4, xs, acc, back s4 j4, own s4, accs s4, (sB.trans z.1).trans s4, k4⟩
      | true =>
        rw [if_pos rfl] at k4 ⊢
        refine k4 _ (D :: L) σ3 H4 _ (E3.step s4 j4) fun y d n5 H5 s5 j5 r5 k5 => ?_
        refine k5 _ (D :: L) σ3 H5 _ ((E3.step s4 j4).step s5 j5) fun y2 d2 n6 H6 s6 j6 r6 ⟨key, ek, hz, k6⟩ => ?_
        subst ek
        have ey : y = kV key := by
          cases key with
          | inl i => cases r5; rfl
          | inr i => cases r5; rfl
        have s46 := (s4.trans s5).trans s6
        refine ⟨xs, key, ey, own s46, by rw [hacc.length]; exact hz, n6, putK xs key y2, putKD acc key d2, ?_, upd_same, ?_, ?_, k6⟩
        · have Eb := back s46 j6
          obtain ⟨Ls5, sl5, sb5⟩ := Eb.slots
          have e5 := sl5.inj slw
          subst e5
          exact Eb.growAny List.mem_cons_self sl5 sb5 fun q => DnL ((sbw.trans sb).subset q)
        · have hm : D ∈ (D :: L) ++ c.O := List.mem_append_left _ List.mem_cons_self
          rw [hid_upd_in hm]
          exact RpKs.put r6 (accs s46)
        · exact same_upd_old hD ((sB.trans z.1).trans s46)
  · left
    have e : i = ds.length := by omega
    subst e
    refine ⟨it.stop (D :: L) n' H' _ _ E' _ (Nat.le_refl _), ?_⟩
    exact q _ _ n' H' (s1.trans sB) E'.bag (.dct (.inl (by rw [hid_out DnO]; exact hDx)) (hacc.mono (same_hid_sub fun a ha => List.mem_cons_of_mem _ ha))) (hd n' acc hI)
end
theorem r2_dgetK {K : PySem.W.Frag} {Φ : D → Prop} {kvs : List (L2.Key × D)} {y : D} {k : L2.Key} {d : D} (hk : keyK y = some k) (hl : lookK kvs k = some d) (kk : Φ d) : R2D K (fun x y H2 Q => ∃ a v, x = .ref a ∧ DGet H2 a y (some v) ∧ Q v H2) (.dct kvs) y Φ := fun O H x z Q rx ry no q => by
  cases rx with
  | dct hs rk =>
    obtain ⟨v, hv, rv⟩ := rk.look.1 d hl
    exact ⟨_, v, rfl, .inl ⟨_, k, same_rd same_hid hs, keyK_V ry hk, hv.symm⟩, q v d H (Same.refl _) rv kk⟩
/-- a method as its callers see it -/
structure Mt (P : Program) (w : World) (K : PySem.W.Frag) (mg : Str → Option Value) (base : Heap) (C : Addr) (x : Str) (k : Nat) (ps : List Str) (S : L3.Spec) where
  f : Addr
  fd : FuncData
  cl : Cls K C
  me : Meth K C x f
  G : FnOk P w K mg base CX0 k f fd ps (spD K S)
  b : Binds K fd ps []
end L3
/-! L3z: errors over data: defs that raise, raise, try .. except .. as. -/
namespace L3
open PySem L2
/-! ### promises with errors -/
/-- wished of an error, told by its class and its fields -/
abbrev Er := Nat → List SD → Addr → List (Str × D) → Prop
def XA (c : Ctx) (W : WX) (Ξ : Er) : Prop :=
  ∀ P L n H σ ρ C dx fs ks, Env c P L n H σ ρ → H dx = some (.xd fs) → dx ∉ L ++ c.O → RpFs c.K (hid (L ++ c.O) H) fs ks → Ξ n ρ C ks → W (.ref C) (some dx) σ H
abbrev SpecX := Option (Addr × Addr) → Nat → List D → (Nat → D → Prop) → (Nat → Addr → List (Str × D) → Prop) → Prop
def spDX (K : PySem.W.Frag) (S : SpecX) : Sp := fun vs H Q E => ∃ (O : List Addr) (bag : Option (Addr × Addr)) (n : Nat) (ds : List D) (Φ : Nat → D → Prop) (Ξ : Nat → Addr → List (Str × D) → Prop),
  (∀ b q, bag = some (b, q) → BagOk b q n H ∧ b ∈ O ∧ q ∈ O ∧ q ≠ b) ∧ (∀ o ∈ O, H o ≠ none) ∧ RpAll K (hid O H) vs ds ∧ S bag n ds Φ Ξ ∧
  (∀ v d n' H', Same (hid (bagB bag) H) (hid (bagB bag) H') → (∀ b q, bag = some (b, q) → BagOk b q n' H') → Rp K (hid O H') v d → Φ n' d → Q v H') ∧
  ∀ C dx fs ks n' H', Same (hid (bagB bag) H) (hid (bagB bag) H') → (∀ b q, bag = some (b, q) → BagOk b q n' H') → H' dx = some (.xd fs) → dx ∉ O → RpFs K (hid O H') fs ks → Ξ n' C ks → E (.ref C) (some dx) H'
section
variable {P : Program} {w : World} {K : PySem.W.Frag} {mg : Str → Option Value} {base : Heap}
theorem env_start {O : List Addr} {bag : Option (Addr × Addr)} {n : Nat} {H : Hp} {vs : List V} {ds : List D} (N : List Str) (hb : ∀ b q, bag = some (b, q) → BagOk b q n H ∧ b ∈ O ∧ q ∈ O ∧ q ≠ b) (hO : ∀ o ∈ O, H o ≠ none) (r : RpAll K (hid O H) vs ds) :
    Env ⟨P, w, K, O, bag, H⟩ (fun _ => none) [] n H (L2.start N vs) (rho N ds) := by
  have e : L2.start N vs = vs.map some ++ List.replicate (N.length - ds.length) none := by unfold L2.start; rw [r.length]
  exact { nd := List.nodup_nil, fresh := (fun l hl => nomatch hl), slots := ⟨[], by rw [e]; exact slots_start r, List.Sublist.refl _⟩, lst := (fun l hl => nomatch hl), bag := fun b q e => (hb b q e).1, base := Same.refl _,
          pers := (fun _ _ e => nomatch e), bO := fun b q e => (hb b q e).2, al := hO }
/-- THE RULE for a def that may raise -/
theorem fn_DX {x qual : Str} {st : Stmt} {f : Addr} {fd : FuncData} {N ps : List Str} {k : Nat} {S : SpecX} (F : Fun K x qual st f fd) (sc : FnScope N ps (defScope st))
    (len : ∀ bag n ds Φ Ξ, S bag n ds Φ Ξ → ds.length = ps.length)
    (body : ∀ (cdv : Value) (A : Around) (outer : List PySem.Env) (s : Shared) (H : Hp) (E : XK) (O : List Addr) (bag : Option (Addr × Addr)) (n : Nat) (ds : List D) (Φ : Nat → D → Prop) (Ξ : Nat → Addr → List (Str × D) → Prop), Room k (A.deeper (PyProof.Rows.envOfC qual (defScope st) s.heap.objs.size f cdv)) → S bag n ds Φ Ξ →
      XA ⟨P, w, K, O, bag, H⟩ (fun cls d _ H' => E cls d H') (fun n' _ C ks => Ξ n' C ks) →
      ∃ t, PSs (cxOf (L2.CX P w) P w K mg base N qual (defScope st) f cdv A outer s H E) (defBody st) t ∧ WS ⟨P, w, K, O, bag, H⟩ t (rho N ds) n { nx := fun n' _ => Φ n' .non, rt := Φ }) :
    FnOk P w K mg base (L2.CX P w) (k + 1) f fd ps (spDX K S) := by
  refine F.okX sc (fun vs H Q E h => ?_) (fun cdv A outer s H vs Q E hr h => ?_)
  · obtain ⟨O, bag, n, ds, Φ, Ξ, _, _, r, hS, _⟩ := h
    rw [r.length]; exact len bag n ds Φ Ξ hS
  · obtain ⟨O, bag, n, ds, Φ, Ξ, hb, hO, r, hS, q, qx⟩ := h
    have hx : XA ⟨P, w, K, O, bag, H⟩ (fun cls d _ H' => E cls d H') (fun n' _ C ks => Ξ n' C ks) := fun P' L n' H' σ ρ C dx fs ks E' hd hn hf kk =>
      qx C dx fs ks n' H' E'.base (fun b q e => E'.bag b q e) hd (fun z => hn (List.mem_append_right _ z)) (hf.mono (same_hid_sub fun a ha => List.mem_append_right _ ha)) kk
    obtain ⟨t, ht, W⟩ := body cdv A outer s H E O bag n ds Φ Ξ hr hS hx
    refine ⟨t, ht, W (fun _ => none) [] _ H _ (env_start N hb hO r) ?_⟩
    exact { nx := fun L n' H' σ ρ E k => q .non .non n' H' E.base (fun b q e => E.bag b q e) .non k,
            rt := fun v d n' H' s j r k => q v d n' H' s j r k, bk := fun _ _ _ _ _ _ k => k.elim, ct := fun _ _ _ _ _ _ k => k.elim }
end
section
variable {c : Ctx} {ρ : List SD} {n : Nat} {te to : TE} {as : TA} {Φ : Nat → D → Prop} {W : WX} {Ξ : Er} {Ψ : Out}
theorem we_callX {S : SpecX} {dvs : List V} {dds : List D} (hw : XA c W Ξ) (hd : ∀ H, RpAll c.K H dvs dds) (h : WA c as ρ n fun n1 ds => S c.bag n1 (ds ++ dds) Φ fun n2 C ks => Ξ n2 ρ C ks) :
    WE c (tCallSD (spDX c.K S) dvs (fun σ => L2.WE W σ) as) ρ n Φ := fun P L σ H Q E q => by
  refine h P L σ H _ E fun vs ds n1 H1 s1 j1 r1 k => ?_
  have E1 := E.step s1 j1
  refine ⟨L ++ c.O, c.bag, n1, ds ++ dds, Φ, _, fun b q hb => ⟨j1 b q hb, List.mem_append_right _ (E.bO b q hb).1, List.mem_append_right _ (E.bO b q hb).2.1, (E.bO b q hb).2.2⟩, E1.alLO, r1.append (hd _), k,
    fun v d n2 H2 s2 j2 r2 k2 => q v d n2 H2 (s1.trans s2) j2 r2 k2, fun C dx fs ks n2 H2 s2 j2 hx hn hf kk => ?_⟩
  exact hw P L n2 H2 σ ρ C dx fs ks (E1.step s2 j2) hx hn hf kk
theorem we_methX {C : Addr} {m : Str} {S : SpecX} {dvs : List V} {dds : List D} {XE : XK} (hw : XA c (fun cls d _ H => XE cls d H) Ξ) (hd : ∀ H, RpAll c.K H dvs dds)
    (h : WE c to ρ n fun n1 x => ∃ ds, x = .obj C ds ∧ ds.lookup m = none ∧ WA c as ρ n1 fun n2 es => S c.bag n2 (.obj C ds :: (es ++ dds)) Φ fun n3 C ks => Ξ n3 ρ C ks) : WE c (tMeth C m (spDX c.K S) dvs XE to as) ρ n Φ := fun P L σ H Q E q => by
  refine h P L σ H _ E fun x d n1 H1 s1 j1 r1 ⟨ds, e, hn, ha⟩ => ?_
  subst e
  have E1 := E.step s1 j1
  cases r1 with
  | obj h1 hf =>
    refine ⟨_, _, _, rfl, (hid_some.mp h1).2, hf.none hn, ?_⟩
    refine ha P L σ H1 _ E1 fun vs es n2 H2 s2 j2 r2 k => ?_
    have E2 := E1.step s2 j2
    refine ⟨L ++ c.O, c.bag, n2, _, Φ, _, fun b q hb => ⟨j2 b q hb, List.mem_append_right _ (E.bO b q hb).1, List.mem_append_right _ (E.bO b q hb).2.1, (E.bO b q hb).2.2⟩, E2.alLO, .cons ((Rp.obj h1 hf).mono (E1.sameLO s2)) (r2.append (hd _)), k,
      fun v d n3 H3 s3 j3 r3 k3 => q v d n3 H3 ((s1.trans s2).trans s3) j3 r3 k3, fun C' dx fs ks n3 H3 s3 j3 hx hn hf kk => ?_⟩
    exact hw P L n3 H3 σ ρ C' dx fs ks (E2.step s3 j3) hx hn hf kk

/-! ### raise -/
theorem RpFs.append {K : PySem.W.Frag} {H : Hp} : ∀ {vs : List (Str × V)} {ds : List (Str × D)} {vs' : List (Str × V)} {ds' : List (Str × D)}, RpFs K H vs ds → RpFs K H vs' ds' → RpFs K H (vs ++ vs') (ds ++ ds')
  | _, _, _, _, .nil, r => r
  | _, _, _, _, .cons h t, r => .cons h (t.append r)
theorem RpFs.rev {K : PySem.W.Frag} {H : Hp} : ∀ {vs : List (Str × V)} {ds : List (Str × D)}, RpFs K H vs ds → RpFs K H vs.reverse ds.reverse
  | _, _, .nil => .nil
  | _, _, .cons h t => by
    rw [List.reverse_cons, List.reverse_cons]
    exact t.rev.append (.cons h .nil)
theorem rpfs_zip {K : PySem.W.Frag} {H : Hp} : ∀ {fs : List Str} {vs : List V} {ds : List D}, RpAll K H vs ds → RpFs K H (fs.zip vs) (fs.zip ds)
  | [], _, _, _ => .nil
  | _ :: _, _, _, .nil => .nil
  | _ :: _, _, _, .cons h t => .cons h (rpfs_zip t)
/-- an error's __init__ that keeps its arguments -/
def spXI (C : Addr) (fs : List Str) : Sp := fun vs H Q _ => ∃ (a : Addr) (ws : List V), vs = .ref a :: ws ∧ ws.length = fs.length ∧ H a = some (exo a C none) ∧
  ∀ (d : Addr) (H' : Hp), H d = none → H' a = some (exo a C (some d)) → H' d = some (exd d (fs.zip ws).reverse) → (∀ b, b ≠ a → b ≠ d → H' b = H b) → Q .non H'
theorem ws_raise {C : Addr} {fs : List Str} (hw : XA c W Ξ) (h : WA c as ρ n fun n1 ds => ds.length = fs.length ∧ fs.length ≤ 1000 ∧ Ξ n1 ρ C (fs.zip ds).reverse) :
    WS c (fun _ σ H => tMkO C (spXI C fs) [] as σ H fun cls d H' => W cls d σ H') ρ n Ψ := fun P L σ H Dn E A => by
  refine h P L σ H _ E fun vs ds n1 H1 s1 j1 r1 ⟨hl, hz, k⟩ => ?_
  have E1 := E.step s1 j1
  have hvl : vs.length = fs.length := r1.length.trans hl
  refine ⟨by omega, fun a ha => ⟨a, vs, by rw [List.append_nil], hvl, upd_same, fun d H' hd e1 e2 e3 => ?_⟩⟩
  have hda : d ≠ a := fun z => by
    rw [z, upd_same] at hd
    cases hd
  have hd1 : H1 d = none := by rw [upd_ne hda] at hd; exact hd
  refine ⟨rfl, d, _, e1, e2, hd1, ?_⟩
  have eH : upd (del H' a) d (.xd (fs.zip vs).reverse) = upd H1 d (.xd (fs.zip vs).reverse) := by
    funext b
    by_cases hb : b = d
    · rw [hb, upd_same, upd_same]
    · rw [upd_ne hb, upd_ne hb]
      by_cases hba : b = a
      · rw [hba, del_same, ha]
      · rw [del_ne hba, e3 b hba hb, upd_ne hba]
  rw [eH]
  have dO : d ∉ L ++ c.O := E1.noO d hd1
  have sm : Same H1 (upd H1 d (.xd (fs.zip vs).reverse)) := same_upd_new hd1
  obtain ⟨s2, j2⟩ := E1.same sm
  exact hw P L n1 _ σ ρ C d _ _ (E1.step s2 j2) upd_same dO ((rpfs_zip r1).rev.mono (same_hid_of sm)) k
end

/-! ### what is owned is hidden for a while -/
/-- one's own things put aside -/
def asd : SD → SD
  | .un => .un
  | .val d => .val d
  | _ => .un
section
variable {pr : Program} {wd : World} {K : PySem.W.Frag} {O : List Addr} {H : Hp}
theorem Slots.asd : ∀ {σ : List (Option V)} {ρ : List SD} {L : List Addr}, Slots pr wd K O H σ ρ L → Slots pr wd K O H σ (ρ.map L3.asd) []
  | _, _, _, .nil => .nil
  | _, _, _, .un s => .un s.asd
  | _, _, _, .val h s => .val h s.asd
  | _, _, _, .own _ _ s => .un s.asd
  | _, _, _, .dic _ s => .un s.asd
  | _, _, _, .dk _ s => .un s.asd
  | _, _, _, .tw _ s => .un s.asd
theorem Slots.gone : ∀ {σ : List (Option V)} {ρ : List SD} {L : List Addr} (i : Nat), Slots pr wd K O H σ ρ L → ∃ L', Slots pr wd K O H (σ.set i none) (ρ.set i .un) L' ∧ L'.Sublist L
  | _, _, _, _, .nil => ⟨[], .nil, List.Sublist.refl _⟩
  | _, _, _, 0, .un s => ⟨_, .un s, List.Sublist.refl _⟩
  | _, _, _, 0, .val _ s => ⟨_, .un s, List.Sublist.refl _⟩
  | _, _, _, 0, .own _ _ s => ⟨_, .un s, List.sublist_cons_self _ _⟩
  | _, _, _, 0, .dic _ s => ⟨_, .un s, List.sublist_cons_self _ _⟩
  | _, _, _, 0, .dk _ s => ⟨_, .un s, List.sublist_cons_self _ _⟩
  | _, _, _, 0, .tw _ s => ⟨_, .un s, List.sublist_cons_self _ _⟩
  | _, _, _, i + 1, .un s => by
    obtain ⟨L', h1, h2⟩ := Slots.gone i s
    exact ⟨L', .un h1, h2⟩
  | _, _, _, i + 1, .val h s => by
    obtain ⟨L', h1, h2⟩ := Slots.gone i s
    exact ⟨L', .val h h1, h2⟩
  | _, _, _, i + 1, .own h r s => by
    obtain ⟨L', h1, h2⟩ := Slots.gone i s
    exact ⟨_ :: L', .own h r h1, h2.cons_cons _⟩
  | _, _, _, i + 1, .dic h s => by
    obtain ⟨L', h1, h2⟩ := Slots.gone i s
    exact ⟨_ :: L', .dic h h1, h2.cons_cons _⟩
  | _, _, _, i + 1, .dk h s => by
    obtain ⟨L', h1, h2⟩ := Slots.gone i s
    exact ⟨_ :: L', .dk h h1, h2.cons_cons _⟩
  | _, _, _, i + 1, .tw h s => by
    obtain ⟨L', h1, h2⟩ := Slots.gone i s
    exact ⟨_ :: L', .tw h h1, h2.cons_cons _⟩
end
section
variable {c : Ctx} {P P' : Hp} {L L' : List Addr} {n n' : Nat} {H H' : Hp} {σ σ' : List (Option V)} {ρ ρ' : List SD}
theorem Env.unset (E : Env c P L n H σ ρ) (i : Nat) : Env c P L n H (σ.set i none) (ρ.set i .un) := by
  obtain ⟨Ls, sl, sb⟩ := E.slots
  obtain ⟨L', s, sub⟩ := sl.gone i
  exact E.reslot s (sub.trans sb)
/-- a new beginning at this heap -/
theorem Env.re (E : Env c P L n H σ ρ) : Env { c with O := L ++ c.O, H0 := H } (fun _ => none) [] n H σ (ρ.map asd) where
  nd := List.nodup_nil
  fresh := (fun l hl => nomatch hl)
  slots := by
    obtain ⟨Ls, sl, _⟩ := E.slots
    exact ⟨[], sl.asd, List.Sublist.refl _⟩
  lst := (fun l hl => nomatch hl)
  bag := E.bag
  base := Same.refl _
  pers := (fun _ _ e => nomatch e)
  bO := fun b q e => ⟨List.mem_append_right _ (E.bO b q e).1, List.mem_append_right _ (E.bO b q e).2.1, (E.bO b q e).2.2⟩
  al := E.alLO
/-- .. and back -/
theorem Env.back (E : Env c P L n H σ ρ) (E2 : Env { c with O := L ++ c.O, H0 := H } P' L' n' H' σ' ρ') : Env c P (L' ++ L) n' H' σ' ρ' where
  nd := by
    refine List.nodup_append.mpr ⟨E2.nd, E.nd, fun a ha b hb e => ?_⟩
    subst e
    exact (E2.fresh a ha).2 (List.mem_append_left _ hb)
  fresh := fun l hl => by
    rcases List.mem_append.mp hl with q | q
    · have w := E.new (show H l = none from (E2.fresh l q).1)
      exact ⟨w.1, w.2.1⟩
    · exact E.fresh l q
  slots := by
    obtain ⟨Ls, sl, sb⟩ := E2.slots
    refine ⟨Ls, ?_, sb.trans (List.sublist_append_left _ _)⟩
    rw [List.append_assoc]
    exact sl
  lst := fun l hl => by
    rcases List.mem_append.mp hl with q | q
    · exact E2.lst l q
    · obtain ⟨o, h⟩ := E.lst l q
      exact ⟨o, (hid_some.mp (E2.base l o (hid_some.mpr ⟨E.notB q, h⟩))).2⟩
  bag := E2.bag
  base := E.base.trans E2.base
  pers := fun a o h => by
    obtain ⟨h1, h2⟩ := hid_some.mp (E.pers a o h)
    refine hid_some.mpr ⟨fun q => ?_, (hid_some.mp (E2.base a o (hid_some.mpr ⟨fun q => h1 (E.BLO a q), h2⟩))).2⟩
    rw [List.append_assoc] at q
    rcases List.mem_append.mp q with q | q
    · have z : H a = none := (E2.fresh a q).1
      rw [h2] at z
      cases z
    · exact h1 q
  bO := E.bO
  al := fun o ho => E2.al o (List.mem_append_right _ ho)
/-- what was seen of the ground at the new beginning -/
theorem Env.old (E : Env c P L n H σ ρ) : Same (hid c.O c.H0) (hid (L ++ c.O) H) := fun a o h => by
  obtain ⟨h1, h2⟩ := hid_some.mp h
  refine hid_some.mpr ⟨fun q => ?_, (hid_some.mp (E.base a o (hid_some.mpr ⟨fun q => h1 (E.inO q), h2⟩))).2⟩
  rcases List.mem_append.mp q with q | q
  · have z := (E.fresh a q).1
    rw [h2] at z
    cases z
  · exact h1 q
theorem Acc.re {Ψ : Out} {Dn : Ends} (E : Env c P L n H σ ρ) (A : Acc c P Ψ Dn) {P2 : Hp} : Acc { c with O := L ++ c.O, H0 := H } P2 Ψ Dn where
  nx := fun L2 n2 H2 σ2 ρ2 E2 k => A.nx (L2 ++ L) n2 H2 σ2 ρ2 (E.back ({ E2 with pers := E2.pers } : Env { c with O := L ++ c.O, H0 := H } P2 L2 n2 H2 σ2 ρ2)) k
  rt := fun v d n2 H2 s j r k => A.rt v d n2 H2 (E.base.trans s) j (r.mono (same_hid_sub fun a ha => List.mem_append_right _ ha)) k
  bk := fun L2 n2 H2 σ2 ρ2 E2 k => A.bk (L2 ++ L) n2 H2 σ2 ρ2 (E.back E2) k
  ct := fun L2 n2 H2 σ2 ρ2 E2 k => A.ct (L2 ++ L) n2 H2 σ2 ρ2 (E.back E2) k
end

/-! ### try .. except X as e -/
/-- behind a suite the error's name is gone -/
def outU (Ψ : Out) (i : Nat) : Out := { nx := fun n ρ => Ψ.nx n (ρ.set i .un), rt := Ψ.rt, bk := fun n ρ => Ψ.bk n (ρ.set i .un), ct := fun n ρ => Ψ.ct n (ρ.set i .un) }
/-- an error that is held: its dict -/
structure Held (c : Ctx) (dx : Addr) (ks : List (Str × D)) : Prop where
  at_ : ∃ fs, c.H0 dx = some (.xd fs) ∧ RpFs c.K (hid c.O c.H0) fs ks
  out : dx ∉ c.O
section
variable {c : Ctx} {ρ : List SD} {n i : Nat} {Ψ : Out} {cl : Value} {tb : WX → TS} {ts : Addr → Value → Option Addr → TS} {Wout : WX} {Ξ : Er}
/-- the reading of a try with one clause -/
def tTry (K : PySem.W.Frag) (cl : Value) (i : Nat) (ts : Addr → Value → Option Addr → TS) (Wout : WX) (tb : WX → TS) : TS := fun D σ H => tb (wAs K cl i ts Wout D) D σ H
theorem ps_try {X : Cx} {x nm : Str} {c : Value} {i : Nat} {body suite : List Stmt} {b₀ : Stmt} {np pos pos' : Pos} {tb : WX → TS} {ts : Addr → Value → Option Addr → TS} {Wout : WX} {K : PySem.W.Frag} (hs : X.stack = X.env :: X.outer) (hf : X.env.frame = some X.env.locals) (hN : X.N.Nodup) (hi : X.N[i]? = some nm) (hln : X.env.kindOf nm = some .local) (hc : Names X x c) (tk : Takes X Wout)
    (hb : ∀ (W : WX) (pn : List (Addr × Obj)) (xe : Value → Shared → Prop), Takes (X.tr pn xe) W → PassesOwn (model X.prog X.w) X.A X.env xe → PSs (X.tr pn xe) body (tb W))
    (hsu : ∀ (a : Addr) (oe : Obj) (cls : Value) (d : Option Addr) (pn : List (Addr × Obj)), Zc cls d oe → (∃ vs, oe.data = .fields vs) → PSs (X.suite a ((a, oe) :: pn)) (b₀ :: suite) (ts a cls d)) (hK : X.K = K := by rfl) :
    PS X (.Try body [.ExceptHandler (some (.Name x np)) (some nm) (b₀ :: suite) pos'] [] [] pos) (tTry K c i ts Wout tb) := hK ▸ ps_try_as hs hf hN hi hln hc tk hb hsu
theorem ws_try
    (hb : ∀ O' H0', ∀ W, XA { c with O := O', H0 := H0' } W Ξ → WS { c with O := O', H0 := H0' } (tb W) (ρ.map asd) n Ψ)
    (hs : ∀ n' ρ' C ks, Ξ n' ρ' C ks → PySem.W.exmOne c.K (.ref C) cl = some true ∧ ∀ O' H0' dx a, Held { c with O := O', H0 := H0' } dx ks → WS { c with O := O', H0 := H0' } (ts a (.ref C) (some dx)) ((ρ'.map asd).set i (.val (.adr a))) n' (outU Ψ i)) :
    WS c (tTry c.K cl i ts Wout tb) ρ n Ψ := fun P L σ H Dn E A => by
  refine hb (L ++ c.O) H _ ?_ (fun _ => none) [] σ H Dn E.re (A.re E)
  intro P2 L2 n2 H2 σ2 ρ2 C dx fs ks E2 hx hn hf kk
  obtain ⟨he, hh⟩ := hs n2 ρ2 C ks kk
  refine ⟨true, he, fun _ a ha => ?_, fun z => nomatch z⟩
  have E3 : Env c P (L2 ++ L) n2 H2 σ2 ρ2 := E.back E2
  have E4 := E3.re
  have eO : (L2 ++ L) ++ c.O = L2 ++ (L ++ c.O) := List.append_assoc _ _ _
  have hd : Held { c with O := (L2 ++ L) ++ c.O, H0 := H2 } dx ks := ⟨⟨fs, hx, by rw [eO]; exact hf⟩, by rw [eO]; exact hn⟩
  refine hh _ _ dx a hd (fun _ => none) [] _ H2 _ (E4.set i (.adr a)) ?_
  exact { nx := fun L5 n5 H5 σ5 ρ5 E5 k => A.nx _ n5 H5 _ _ ((E3.back E5).unset i) k,
          rt := fun v d n5 H5 s j r k => A.rt v d n5 H5 (E3.base.trans s) j (r.mono (same_hid_sub fun a ha => List.mem_append_right _ ha)) k,
          bk := fun L5 n5 H5 σ5 ρ5 E5 k => A.bk _ n5 H5 _ _ ((E3.back E5).unset i) k,
          ct := fun L5 n5 H5 σ5 ρ5 E5 k => A.ct _ n5 H5 _ _ ((E3.back E5).unset i) k }
/-- e.f in the suite -/
theorem we_xf {C a dx : Addr} {f : Str} {ks : List (Str × D)} {te : TE} {Φ : Nat → D → Prop} (hd : Held c dx ks) (h : WE c te ρ n fun n1 x => x = .adr a ∧ ∃ d, ks.lookup f = some d ∧ Φ n1 d) : WE c (tXf a (.ref C) (some dx) C f te) ρ n Φ := fun P L σ H Q E q => by
  refine h P L σ H _ E fun x d n1 H1 s1 j1 r1 ⟨e, d2, hl, k⟩ => ?_
  subst e
  cases r1
  have E1 := E.step s1 j1
  obtain ⟨⟨fs, h1, h2⟩, ho⟩ := hd
  obtain ⟨v, hv, rv⟩ := (h2.mono E1.old).look hl
  exact ⟨rfl, rfl, dx, fs, v, rfl, (hid_some.mp (E1.old dx _ (hid_some.mpr ⟨ho, h1⟩))).2, hv, q v d2 n1 H1 s1 j1 rv k⟩
end

/-! ### errors' __init__ -/
/-- what the text says of AskedError: its __init__ is ValueError's -/
structure AskC (K : PySem.W.Frag) (C0 : Addr) : Prop where
  rd : PySem.W.readsIn K C0 (.type "type") = true
  ga : PySem.W.specialIn K (.ref C0) "__getattribute__" = some (some (.builtin "type.__getattribute__"))
  at_ : PySem.W.findCls K (.ref C0) (.type "type") "__init__" = some (.val (.builtin "ValueError.__init__"))
theorem pe_askinit {X : Cx} {x : Str} {C0 : Addr} {e : Expr} {es : List Expr} {ta : TA} {p1 p2 pos : Pos} {pl : Sem Bool} (hg : Gl X x) (hm : X.mg x = some (.ref C0)) (k : AskC X.K C0) (ha : PA X (e :: es) ta)
    (hdb : (x == ("__debug__" : Str)) = false := by decide)
    (hc : eval (.Call (.Attribute (.Name x p1) "__init__" p2) (e :: es) [] pos) X.env = (do
      let ov ← eval (.Name x p1) X.env
      standAt p2.atName
      let (f, first) ← holding [ov] (getMethod ov "__init__" pl)
      callWith pos f first (backTo pos (starEach (e :: es) X.env)) (backToKw pos (keywordEach [] X.env))) := by rfl)
    (he : starEach (e :: es) X.env = (false, eval e X.env) :: starEach es X.env := by rfl) (hpl : (backTo pos (starEach es X.env)).any (·.1) = false := by rfl) :
    PE X (.Call (.Attribute (.Name x p1) "__init__" p2) (e :: es) [] pos) (tVeI X.K ta) := by
  refine ⟨fun pins s σ H Q I h => ?_⟩
  refine PySem.W.methodCall_KW (ld_glob I hg hm ?_ hdb) hc
  refine PySem.W.method_cls I.kIn k.ga (PySem.W.cls_value I.kIn k.rd k.at_ (by decide +kernel) ?_)
  show wpAny _ _ (callWith pos (Value.builtin "ValueError.__init__") [] (backTo pos (starEach (e :: es) X.env)) []) _ _ _
  refine PyProof.Rows.callWith_method1 (thn (ha.run pos pins _ σ H _ (I.tok _) h) fun us s1 ⟨vs, H1, I1, r1, a, C, ws, ev, hl, T, ea, q⟩ => ?_) he hpl
  subst ev
  cases r1 with
  | @cons _ u0 _ ur ra rw' =>
    obtain rfl : u0 = Value.ref a := ra
    have hlen : ur.length ≤ sizeLine := by
      rw [← Paired.length rw', sizeLine_eq]
      omega
    exact oinit_ok T I1 ea hlen fun s' J => ⟨.non, H1, J, rfl, q⟩
section
variable {P : Program} {w : World} {K : PySem.W.Frag} {mg : Str → Option Value} {base : Heap}
/-- an error's __init__ that says X.__init__(self, 'text') and keeps two arguments -/
theorem xi2_go {C : Addr} {f1 f2 : Str} {t : Str} (T : OexC K C) (n1 : PySem.W.findIn K (.ref C) f1 = some none) (n2 : PySem.W.findIn K (.ref C) f2 = some none) {vs : List V} {H : Hp} {Q : VK} {E : XK} {D : Ends} (h : spXI C [f1, f2] vs H Q E) (hD : ∀ σ H', Q .non H' → D.nx σ H') (r : List (Option V)) :
    tSeq (tDrop (tVeI K (tCons (tVar 0) (tCons (tC (.str t)) tNil)))) (tSeq (tOst K f1 (tVar 0) (tVar 1)) (tOst K f2 (tVar 0) (tVar 2))) D (vs.map some ++ r) H := by
  obtain ⟨a, ws, rfl, hl, ha, q⟩ := h
  match ws, hl with
  | [y1, y2], _ =>
    refine ⟨_, rfl, a, C, _, rfl, by simp, T, ha, ?_⟩
    refine ⟨_, rfl, _, rfl, a, C, rfl, T, n1, .inl ⟨ha, fun dx hn hne => ?_⟩⟩
    refine ⟨_, rfl, _, rfl, a, C, rfl, T, n2, .inr ⟨dx, [(f1, y1)], upd_same, by rw [upd_ne hne, upd_same], Nat.le_of_ble_eq_true rfl, ?_⟩⟩
    refine hD _ _ (q dx _ hn ?_ upd_same fun b hb hb2 => ?_)
    · rw [upd_ne (Ne.symm hne), upd_same]
    · rw [upd_ne hb2, upd_ne hb, upd_ne hb2]
theorem xi1_go {C : Addr} {f1 : Str} {t : Str} (T : OexC K C) (n1 : PySem.W.findIn K (.ref C) f1 = some none) {vs : List V} {H : Hp} {Q : VK} {E : XK} {D : Ends} (h : spXI C [f1] vs H Q E) (hD : ∀ σ H', Q .non H' → D.nx σ H') (r : List (Option V)) :
    tSeq (tDrop (tVeI K (tCons (tVar 0) (tCons (tC (.str t)) tNil)))) (tOst K f1 (tVar 0) (tVar 1)) D (vs.map some ++ r) H := by
  obtain ⟨a, ws, rfl, hl, ha, q⟩ := h
  match ws, hl with
  | [y1], _ =>
    refine ⟨_, rfl, a, C, _, rfl, by simp, T, ha, ?_⟩
    refine ⟨_, rfl, _, rfl, a, C, rfl, T, n1, .inl ⟨ha, fun dx hn hne => ?_⟩⟩
    refine hD _ _ (q dx _ hn upd_same ?_ fun b hb hb2 => ?_)
    · rw [upd_ne hne, upd_same]
      rfl
    · rw [upd_ne hb, upd_ne hb2]
end
/-! ### own lists: x = y.pop() -/
section
variable {X : Cx} {K : PySem.W.Frag}
theorem x_bm0 {o : Expr} {to : TE} {name : Str} {apos cpos : Pos} {T : String} {r : V → List V → Hp → VK → Prop} (h : PE X (.Call (.Attribute o name apos) [] [] cpos) (tBM0 X.K T r to)) (hK : X.K = K := by rfl) : PE X (.Call (.Attribute o name apos) [] [] cpos) (tBM0 K T r to) := hK ▸ h
end
theorem ws_popSet {c : Ctx} {ρ : List SD} {n : Nat} {Ψ : Out} {i j : Nat} {es : List D} {y : D} (h1 : ρ[j]? = some (.own es)) (hy : es[es.length - 1]? = some y) (k : Ψ.nx n ((ρ.set j (.own es.dropLast)).set i (.val y))) :
    WS c (tAsg (tBM0 c.K "list" rPop (tVar j)) (gName i)) ρ n Ψ := fun P L σ H Dn E A => by
  obtain ⟨m, ys, b1, b2, b3, b4⟩ := E.own_at h1
  obtain ⟨u, hu, ru⟩ := b3.get' hy
  refine ⟨.ref m, b1, .inl ⟨rfl, ys, .inl (.inl b2)⟩, m, ys, u, rfl, rfl, b2, by rw [b3.length]; exact hu, ?_⟩
  have hd : RpAll c.K (hid (L ++ c.O) H) ys.dropLast es.dropLast := by
    rw [List.dropLast_eq_take, List.dropLast_eq_take, b3.length]
    exact b3.take _
  have E2 := (b4 ys.dropLast es.dropLast hd).1
  obtain ⟨m'', ys'', f1, f2, f3, f4⟩ := E.pers'.own_at h1
  rw [b1] at f1
  cases f1
  have E2p := (f4 ys.dropLast es.dropLast hd).1.pers
  exact A.nx L n _ _ _ (E2.set i (ru.mono E2p)) k

/-! ### as callers see them -/
/-- a def that may raise -/
structure Dx (P : Program) (w : World) (K : PySem.W.Frag) (mg : Str → Option Value) (base : Heap) (x : Str) (k : Nat) (ps : List Str) (S : L3.SpecX) where
  f : Addr
  fd : FuncData
  G : FnOk P w K mg base (L2.CX P w) k f fd ps (spDX K S)
  m : mg x = some (.ref f)
  k : PySem.W.keepIn K (.ref f) = true
  b : Binds K fd ps []
/-- a method that may raise -/
structure Mx (P : Program) (w : World) (K : PySem.W.Frag) (mg : Str → Option Value) (base : Heap) (C : Addr) (x : Str) (k : Nat) (ps : List Str) (S : L3.SpecX) where
  f : Addr
  fd : FuncData
  cl : Cls K C
  me : Meth K C x f
  G : FnOk P w K mg base (L2.CX P w) k f fd ps (spDX K S)
  b : Binds K fd ps []
/-- an own error: X.__init__ keeps its arguments as the fields fs -/
structure Xn (P : Program) (w : World) (K : PySem.W.Frag) (mg : Str → Option Value) (base : Heap) (x : Str) (fs : List Str) where
  C : Addr
  fI : Addr
  fd : FuncData
  ps : List Str
  T : OexC K C
  iC : PySem.W.findIn K (.ref C) "__init__" = some (some (.ref fI))
  tI : PySem.W.typeIn K (.ref fI) = some (.type "function")
  G : FnOk P w K mg base CX0 1 fI fd ps (spXI C fs)
  b : Binds K fd ps []
  m : mg x = some (.ref C)
  xf : XfC K C
  no : ∀ f ∈ fs, PySem.W.findIn K (.ref C) f = some none
  te : PySem.W.exmOne K (.ref C) (.ref C) = some true
theorem exm_self {K : PySem.W.Frag} {S : Addr} (h1 : PySem.W.subIn K (.ref S) (.type "BaseException") = some true) (h2 : PySem.W.isClsIn K S = true) (h3 : PySem.W.typeIn K (.ref S) = some (.type "type")) (h4 : PySem.W.subIn K (.ref S) (.ref S) = some true) :
    PySem.W.exmOne K (.ref S) (.ref S) = some true := by
  have e1 : (PySem.W.subIn K (.ref S) (.type "BaseException") == some true) = true := by rw [h1] <;> rfl
  have e2 : ((PySem.W.clsIn K S).isSome && PySem.W.typeIn K (.ref S) == some (.type "type")) = true := by
    have h2' : (PySem.W.clsIn K S).isSome = true := h2
    rw [h2', h3] <;> rfl
  show (if (PySem.W.subIn K (.ref S) (.type "BaseException") == some true) = true then (if ((PySem.W.clsIn K S).isSome && PySem.W.typeIn K (.ref S) == some (.type "type")) = true then PySem.W.subIn K (.ref S) (.ref S) else none) else none) = some true
  rw [if_pos e1, if_pos e2]
  exact h4
end L3
namespace Toy
open PySem L2 L3
def top (i : Nat) : Stmt := PySem.Challenge.pw_askedtrue_k04_whole_false_asks_of_every.main.body.getD i (.Pass ⟨0, 0, 0, 0⟩)
structure Txt (mg : Str → Option Value) : Prop where
  b_len : mg "len" = none
  b_abs : mg "abs" = none
  b_sum : mg "sum" = none
  b_max : mg "max" = none
  b_min : mg "min" = none
  b_all : mg "all" = none
  b_any : mg "any" = none
  b_sorted : mg "sorted" = none
  b_isinstance : mg "isinstance" = none
  b_int : mg "int" = none
  b_bool : mg "bool" = none
  b_str : mg "str" = none
  b_list : mg "list" = none
  b_tuple : mg "tuple" = none
  b_range : mg "range" = none
  b_enumerate : mg "enumerate" = none
  b_dict : mg "dict" = none
theorem hu1 {k : Nat} {A : Around} (hr : Room k A) : A.units + 1 < cLine := by have := hr.un; omega
theorem hu65 {k : Nat} {A : Around} (hr : Room k A) : A.units + 65 < cLine := by have := hr.un; omega
section
variable {P : Program} {w : World} {K : PySem.W.Frag} {mg : Str → Option Value} {base : Heap}
/-! the draw -/
def spDraw : L3.Spec := fun bag n ds Φ => ∃ b q k, bag = some (b, q) ∧ ds = [.adr b, .int k] ∧ 0 < k ∧ k < 2 ^ 200 ∧ n < 2 ^ 60 ∧ ∀ r, 0 ≤ r → r < k → Φ (n + 1) (.int r)
abbrev s_law_draw : Stmt := top 27
abbrev N_law_draw : List Str := ["bag", "limit", "digit", "turn", "cells", "cell", "mixed"]
theorem sc_law_draw : FnScope N_law_draw ["bag", "limit"] (defScope s_law_draw) := ⟨rfl, rfl, rfl, by decide +kernel, rfl, by decide +kernel, by decide +kernel⟩

theorem upd3 {α : Type} (a b c x : α) : [a, b, c].set 2 x = [a, b, x] := rfl
theorem dec_gt {i j : Int} {A B : Prop} (h1 : j < i → A) (h2 : i ≤ j → B) : if decide (j < i) = true then A else B := by
  by_cases h : j < i
  · rw [if_pos (decide_eq_true h)]; exact h1 h
  · rw [if_neg (by simpa using h)]; exact h2 (by omega)
theorem ifs_ans {c : TT} {t u : TS} {D : Ends} {σ : L2.St} {H : Hp} (b : Bool) (hc : Ans c σ H b) (h1 : b = true → t D σ H) (h2 : b = false → u D σ H) : tIfS c t u D σ H := by
  refine hc _ ?_
  cases b with
  | true => exact h1 rfl
  | false => exact h2 rfl
theorem ok_draw {f : Addr} {fd : FuncData} (F : Fun K "_law_draw" "_law_draw" s_law_draw f fd) (T : Txt mg) : FnOk P w K mg base CX0 1 f fd ["bag", "limit"] (spD K spDraw) := by
  refine F.ok sc_law_draw (fun vs H Q E h => ?_) (fun cdv A outer s H vs Q E hr h => ?_)
  · obtain ⟨O, bag, n, ds, Φ, _, _, r, ⟨b, q, k, _, e, _⟩, _⟩ := h
    rw [r.length, e]; rfl
  · obtain ⟨O, bag, n, ds, Φ, hb, hO, r, ⟨b, q, k, e1, e2, k0, k1, hn, hk⟩, q0⟩ := h
    subst e1; subst e2
    obtain ⟨⟨t, r0, cs, h1, h2, h3, h4, h5, h6, h7, h8⟩, bO, qO, nqb⟩ := hb b q rfl
    obtain ⟨v1, v2, rfl, r1, r2⟩ := r.two
    cases r1
    cases r2
    have Qf : ∀ (x : Int) (t' r' : Int) (H' : Hp), 0 ≤ x → x < k → 0 ≤ t' → t' ≤ t + 1 → 0 ≤ r' → H' = upd H b (.lst [.ref q, .int t', .int r']) → Q (.int x) H' := fun x t' r' H' x0 xk t0 t1 r0 e => by
      subst e
      refine q0 _ (.int x) (n + 1) _ ?_ (fun b' q' e => ?_) (.int x) (hk x x0 xk)
      · show Same (hid [b] H) (hid [b] _)
        rw [hid_upd_in List.mem_cons_self]
        exact Same.refl _
      · cases e
        exact ⟨t', r', cs, upd_same, by rw [upd_ne nqb]; exact h2, h3, h4, h5, t0, by omega, r0⟩
    have hcl : 0 < cs.length := List.length_pos_iff.mpr h3
    have hlt : t.natAbs < 2 ^ 61 := by omega
    have hc63 : (cs.length : Int) ≤ 63 := by omega
    have kW : CDivW r0 k ∧ CDivW 0 k := by
      have : k.natAbs.log2 < 9000 := Nat.lt_of_lt_of_le (PySem.Flt.log2_lt_of (by decide) (show k.natAbs < 2 ^ 200 by omega)) (by decide)
      exact ⟨⟨k0, this⟩, ⟨k0, this⟩⟩
    refine ⟨_, (pss_cons (ps_if (pt_cmpR op_gt (pe_ix (x_ix K) (pv 0) pe_int (fun _ _ => rfl)) pe_int (nomark _)) (pss_cons (ps_set (i := 2) sc_law_draw.nd rfl (Or.inl rfl) (pe_op op_mod (pe_callTy call_intX (by rfl) T.b_int (by decide +kernel) (pa_cons (pe_ix (x_ix K) (pv 0) pe_int (fun _ _ => rfl)) pa_nil)) (pv 1)))
  (pss_cons (ps_asg (pe_op op_fdivW (pe_ix (x_ix K) (pv 0) pe_int (fun _ _ => rfl)) (pv 1)) (pg_sub (pv 0) pe_int set_list))
  (pss_one (ps_ret (pv 2))))) pss_nil)
  (pss_cons (ps_set (i := 3) sc_law_draw.nd rfl (Or.inl rfl) (pe_ix (x_ix K) (pv 0) pe_int (fun _ _ => rfl)))
  (pss_cons (ps_asg (pe_op (x_add K) (pv 3) pe_int) (pg_sub (pv 0) pe_int set_list))
  (pss_cons (ps_set (i := 4) sc_law_draw.nd rfl (Or.inl rfl) (pe_ix (x_ix K) (pv 0) pe_int (fun _ _ => rfl)))
  (pss_cons (ps_set (i := 5) sc_law_draw.nd rfl (Or.inl rfl) (pe_ix (x_ix K) (pv 4) (pe_op op_mod (pe_callTy call_intX (by rfl) T.b_int (by decide +kernel) (pa_cons (pv 3) pa_nil)) (pe_callB (x_len K) (by rfl) T.b_len (by decide +kernel) (pa_cons (pv 4) pa_nil))) (fun _ _ => rfl)))
  (pss_cons (ps_if (PW.pt (pw_and (pt_cmpR op_lt (pv 3) (pe_callB (x_len K) (by rfl) T.b_len (by decide +kernel) (pa_cons (pv 4) pa_nil)) (nomark _)) (pw_and1 (pt_cmpR op_ge (pv 5) (pe_op op_pow pe_int pe_int) (nomark _))))) (pss_cons (ps_asg (pe_op op_fdivW (pv 5) (pv 1)) (pg_sub (pv 0) pe_int set_list))
  (pss_one (ps_ret (pe_op op_mod (pe_callTy call_intX (by rfl) T.b_int (by decide +kernel) (pa_cons (pv 5) pa_nil)) (pv 1))))) pss_nil)
  (pss_cons (ps_set (i := 6) sc_law_draw.nd rfl (Or.inl rfl) (pe_op op_mod (pe_callTy call_intX (by rfl) T.b_int (by decide +kernel) (pa_cons (pe_op (x_add K) (pe_op (x_add K) (pe_op op_mul (pe_op (x_add K) (pv 5) pe_int) pe_int) (pe_op op_mul (pe_op op_mul (pv 3) (pv 3)) pe_int)) (pe_op op_mul (pv 3) pe_int)) pa_nil)) pe_int))
  (pss_cons (ps_set (i := 6) sc_law_draw.nd rfl (Or.inl rfl) (pe_op op_mod (pe_callTy call_intX (by rfl) T.b_int (by decide +kernel) (pa_cons (pe_op (x_add K) (pe_op op_mul (pv 6) pe_int) (pe_op op_mul (pe_op (x_add K) (pv 3) pe_int) pe_int)) pa_nil)) pe_int))
  (pss_one (ps_ret (pe_op op_mod (pe_callTy call_intX (by rfl) T.b_int (by decide +kernel) (pa_cons (pe_op op_fdivW (pv 6) pe_int) pa_nil)) (pv 1)))))))))))), ?_⟩
    refine ⟨_, rfl, .inl ⟨b, _, 2, .int r0, rfl, rfl, SqL.of h1, rfl, ?_⟩⟩
    refine ⟨r0, 0, rfl, rfl, _, rfl, ?_⟩
    refine dec_gt (fun hr0 => ?_) (fun hr0 => ?_)
    · refine ⟨_, rfl, .inl ⟨b, _, 2, .int r0, rfl, rfl, SqL.of h1, rfl, .inl ⟨r0, rfl, _, rfl, r0, k, rfl, rfl, k0, ?_⟩⟩⟩
      refine ⟨_, rfl, .inl ⟨b, _, 2, .int r0, rfl, rfl, SqL.of h1, rfl, _, rfl, r0, k, rfl, rfl, kW.1, ?_⟩⟩
      refine ⟨_, rfl, b, _, 2, 2, rfl, rfl, h1, rfl, _, rfl, ?_⟩
      exact Qf _ t (r0 / k) _ (Int.emod_nonneg _ (by omega)) (Int.emod_lt_of_pos _ k0) h6 (by omega) (Int.ediv_nonneg h8 (by omega)) rfl
    · refine ⟨_, rfl, .inl ⟨b, _, 1, .int t, rfl, rfl, SqL.of h1, rfl, ?_⟩⟩
      -- bag[1] = turn + 1
      refine ⟨_, rfl, .inl ⟨t, 1, rfl, rfl, _, rfl, b, _, 1, 1, rfl, rfl, h1, rfl, ?_⟩⟩
      have g1 : upd H b (.lst [.ref q, .int (t + 1), .int r0]) b = some (.lst [.ref q, .int (t + 1), .int r0]) := upd_same
      have g2 : upd H b (.lst [.ref q, .int (t + 1), .int r0]) q = some (.lst (cs.map V.int)) := by rw [upd_ne nqb]; exact h2
      -- cells = bag[0]; cell = cells[int(turn) % len(cells)]
      refine ⟨_, rfl, .inl ⟨b, _, 0, .ref q, rfl, rfl, SqL.of g1, rfl, ?_⟩⟩
      have hm0 : 0 ≤ t % (cs.length : Int) := Int.emod_nonneg _ (by omega)
      have hm1 : t % (cs.length : Int) < cs.length := Int.emod_lt_of_pos _ (by omega)
      obtain ⟨j, hj⟩ : ∃ j : Nat, t % (cs.length : Int) = j := ⟨(t % (cs.length : Int)).toNat, by omega⟩
      have hjl : j < cs.length := by omega
      have hat : atI (cs.map V.int) (t % (cs.length : Int)) = some (.int cs[j]) := by
        rw [hj]
        exact atI_nat (by rw [List.getElem?_map, List.getElem?_eq_getElem hjl]; rfl)
      have hc0 : 0 ≤ cs[j] := h4 _ (List.getElem_mem hjl)
      refine ⟨_, rfl, _, rfl, .inl ⟨t, rfl, _, rfl, .inl ⟨q, _, rfl, .inl (SqL.of g2), t, _, rfl, rfl, (by rw [List.length_map]; omega), ?_⟩⟩⟩
      refine .inl ⟨q, _, _, .int cs[j], rfl, rfl, SqL.of g2, by rw [List.length_map]; exact hat, ?_⟩
      generalize hcell : cs[j] = cell at hc0
      have fin : ∀ m : Int, 0 ≤ m % k ∧ m % k < k := fun m => ⟨Int.emod_nonneg _ (by omega), Int.emod_lt_of_pos _ k0⟩
      have tB : -(2 ^ 64) < t ∧ t < 2 ^ 64 := by omega
      unfold gName
      dsimp only
      refine st_seq ?_
      refine ifs_ans (decide (t < cs.length) && decide (10 ^ 18 ≤ cell)) (ans_and2 (fun Q' q' => ⟨_, rfl, _, rfl, .inl ⟨q, _, rfl, .inl (SqL.of g2), t, _, rfl, rfl, _, rfl, by rw [List.length_map]; exact q'⟩⟩) (fun Q' q' => ⟨_, rfl, 10, 18, rfl, rfl, ⟨by decide, by decide, by decide⟩, _, _, rfl, rfl, _, rfl, q'⟩)) (fun hb1 => ?_) (fun hb1 => ?_)
      · have kc : CDivW cell k := ⟨k0, kW.1.2⟩
        refine ⟨_, rfl, _, rfl, cell, k, rfl, rfl, kc, ?_⟩
        refine ⟨_, rfl, b, _, 2, 2, rfl, rfl, g1, rfl, _, rfl, .inl ⟨cell, rfl, _, rfl, cell, k, rfl, rfl, k0, ?_⟩⟩
        refine Qf _ (t + 1) (cell / k) _ (fin cell).1 (fin cell).2 (by omega) (by omega) (Int.ediv_nonneg hc0 (by omega)) ?_
        rw [upd_upd]; rfl
      · refine ⟨_, rfl, .inl ⟨cell, 17, rfl, rfl, _, _, rfl, rfl, .inr (by decide), ?_⟩⟩
        refine ⟨_, rfl, _, rfl, t, t, rfl, rfl, .inl tB, _, _, rfl, rfl, .inr (by decide), .inl ⟨_, _, rfl, rfl, ?_⟩⟩
        refine ⟨_, rfl, _, _, rfl, rfl, .inr (by decide), .inl ⟨_, _, rfl, rfl, .inl ⟨_, rfl, _, _, rfl, rfl, (by show (0 : Int) < 2147483647; decide), ?_⟩⟩⟩
        refine ⟨_, rfl, _, _, rfl, rfl, .inr (by decide), _, rfl, .inl ⟨t, 3, rfl, rfl, _, _, rfl, rfl, .inr (by decide), .inl ⟨_, _, rfl, rfl, .inl ⟨_, rfl, _, _, rfl, rfl, (by show (0 : Int) < 2147483399; decide), ?_⟩⟩⟩⟩
        refine ⟨_, rfl, _, _, rfl, rfl, ⟨by decide, by decide +kernel⟩, .inl ⟨_, rfl, _, rfl, _, _, rfl, rfl, k0, ?_⟩⟩
        exact Qf _ (t + 1) r0 _ (fin _).1 (fin _).2 (by omega) (by omega) h8 rfl
end
end Toy
namespace Toy
open PySem L2 L3
local macro_rules | `(tactic| walk_at "we1") => `(tactic| first
  | ((with_reducible refine' we_var ?hv ?_); (case hv => rfl))
  | (with_reducible refine we_int ?_)
  | (with_reducible refine we_str ?_)
  | (with_reducible refine we_bl ?_)
  | (with_reducible refine we_non ?_)
  | ((with_reducible refine' we_dix ?hv ?_); (case hv => rfl))
  | (with_reducible refine we_op ?_)
  | ((with_reducible refine' we_dget ?hv ?_); (case hv => rfl))
  | (with_reducible refine we_count ?_)
  | (with_reducible refine we_cb ?_)
  | (with_reducible refine we_call0 ?_)
  | (with_reducible refine we_tup ?_)
  | (with_reducible refine we_lst ?_)
  | (with_reducible refine we_if ?_)
  | (with_reducible refine we_not ?_)
  | (with_reducible refine we_and ?_)
  | (with_reducible refine we_or ?_)
  | (with_reducible refine we_isN ?_)
  | (with_reducible refine we_notN ?_)
  | (with_reducible refine we_sl ?_)
  | (with_reducible refine wa_cons ?_)
  | (with_reducible refine wa_nil ?_)
  | (with_reducible refine wt_test ?_)
  | (with_reducible refine wt_B ?_)
  | (with_reducible refine wt_and ?_)
  | (with_reducible refine wt_or ?_)
  | (with_reducible refine wt_not ?_)
  | (with_reducible refine wt_yes ?_)
  | (with_reducible refine wo_none ?_)
  | (with_reducible refine wo_some ?_)
  | ((with_reducible refine' r2_ix ?hx ?_); (case hx => rfl))
  | (with_reducible refine r2_isN ?_)
  | (with_reducible refine r2_notN ?_)
  | (with_reducible refine r2_lt ?_)
  | (with_reducible refine r2_le ?_)
  | (with_reducible refine r2_gt ?_)
  | (with_reducible refine r2_ge ?_)
  | (with_reducible refine r2_sub ?_)
  | (with_reducible refine r2_addI ?_)
  | (with_reducible refine r2_eqI ?_)
  | (with_reducible refine r2_neI ?_)
  | (with_reducible refine rc_int ?_)
  | (with_reducible refine rc_abs ?_)
  | ((with_reducible refine' rc_len ?hl ?_); (case hl => rfl))
  | (with_reducible refine wi_seq ?_)
  | (with_reducible refine wi_rng1 ?_)
  | (with_reducible refine wi_rng2 ?_)
  | (with_reducible refine wi_enum ?_)
  | (refine ⟨_, rfl, ?_⟩))
local macro_rules | `(tactic| walk_at "ws1") => `(tactic| first
  | (with_reducible refine ws_seq ?_)
  | (with_reducible refine ws_set ?_)
  | (with_reducible refine ws_ret ?_)
  | (with_reducible refine ws_if ?_)
  | (with_reducible refine ws_next ?_)
  | (with_reducible refine ws_asg ?_))
local macro_rules | `(tactic| walk_at "wg1") => `(tactic| first
  | (with_reducible refine wg_name (rw_name (by decide)) ?_)
  | (with_reducible refine wg_name (fun _ _ => trivial) ?_)
  | ((with_reducible refine' wg_tup ?hl ?_); (case hl => rfl))
  | (with_reducible refine wgs_cons rw_trans ?_)
  | (with_reducible refine wgs_nil rw_refl ?_)
  | (with_reducible refine wgs_cons (fun _ _ _ _ _ => trivial) ?_)
  | (with_reducible refine wgs_nil (fun _ => trivial) ?_))
local macro_rules | `(tactic| walk_at "go") => `(tactic| repeat' (first | walk_at "we1" | walk_at "wg1"))
section
variable {P : Program} {w : World} {K : PySem.W.Frag} {mg : Str → Option Value} {base : Heap}
/-! whole numbers, names -/
def spWhole : L3.Spec := fun bag n ds Φ => ∃ i : Int, ds = [.int i] ∧ Φ n (.bl true)
abbrev s_is_whole : Stmt := top 12
abbrev N_is_whole : List Str := ["thing"]
theorem sc_is_whole : FnScope N_is_whole ["thing"] (defScope s_is_whole) := ⟨rfl, rfl, rfl, by decide +kernel, rfl, by decide +kernel, by decide +kernel⟩

theorem ok_whole {f : Addr} {fd : FuncData} (F : Fun K "is_whole" "is_whole" s_is_whole f fd) (T : Txt mg) : FnOk P w K mg base CX0 1 f fd ["thing"] (spD K spWhole) := by
  refine fn_D F sc_is_whole (fun bag n ds Φ h => ?_) (fun cdv A outer s H E O bag n ds Φ hr h => ?_)
  · obtain ⟨E, e, _⟩ := h
    rw [e]; rfl
  · obtain ⟨i, e, kk⟩ := h
    subst e
    refine ⟨_, (pss_one (ps_ret (pe_and (pe_callB (x_isi K) (by rfl) T.b_isinstance (by decide +kernel) (pa_cons (pv 0) (pa_cons (pe_bltn (v := .ty "int") (by rfl) T.b_int (by decide +kernel) rfl) pa_nil))) (pe_one (pe_not (pe_callB (x_isi K) (by rfl) T.b_isinstance (by decide +kernel) (pa_cons (pv 0) (pa_cons (pe_bltn (v := .ty "bool") (by rfl) T.b_bool (by decide +kernel) rfl) pa_nil)))))))), ?_⟩
    show WS _ _ [.val (.int i)] n _
    walk_at "ws1"
    walk_at "go"
    refine we_ty ?_
    walk_at "go"
    refine rc_isi (b := true) rfl (by decide +kernel) ?_
    refine ⟨_, rfl, itT rfl ?_⟩
    walk_at "go"
    refine we_ty ?_
    walk_at "go"
    refine rc_isi (b := false) rfl (by decide +kernel) ?_
    exact ⟨_, rfl, kk⟩
/-- the signs of names -/
def letters : Str := "abcdefghijklmnopqrstuvwxyz"
def signs36 : Str := "abcdefghijklmnopqrstuvwxyz0123456789"
def isName (z : Str) : Bool := decide (1 ≤ z.cps.size) && decide (z.cps.size ≤ 8) && decide (z.cps.toList.headD 0 ∈ letters.cps.toList) && z.cps.toList.all fun u => decide (u ∈ signs36.cps.toList)
structure Txt2 (mg : Str → Option Value) (tL tS : Tok) : Prop where
  b : Txt mg
  c_LETTERS : mg "LETTERS" = some (.str letters tL)
  c_SIGNS : mg "SIGNS" = some (.str signs36 tS)
def spName : L3.Spec := fun bag n ds Φ => ∃ z : Str, ds = [.str z] ∧ isName z = true ∧ Φ n (.bl true)
def inSigns : D → D
  | .str x => .bl (decide (x.cps.toList.headD 0 ∈ signs36.cps.toList))
  | _ => .non
abbrev s_is_name : Stmt := top 13
abbrev N_is_name : List Str := ["thing", "sign"]
theorem sc_is_name : FnScope N_is_name ["thing"] (defScope s_is_name) := ⟨rfl, rfl, rfl, by decide +kernel, rfl, by decide +kernel, by decide +kernel⟩

theorem ok_name {f : Addr} {fd : FuncData} {tL tS : Tok} (F : Fun K "is_name" "is_name" s_is_name f fd) (T2 : Txt2 mg tL tS) : FnOk P w K mg base CX0 1 f fd ["thing"] (spD K spName) := by
  refine fn_D F sc_is_name (fun bag n ds Φ h => ?_) (fun cdv A outer s H E O bag n ds Φ hr h => ?_)
  · obtain ⟨E, e, _⟩ := h
    rw [e]; rfl
  · obtain ⟨z, e, hz, kk⟩ := h
    subst e
    have T := T2.b
    refine ⟨_, (pss_cons (ps_if (PW.pt (pw_or (pt_not (pt_val (pe_callB (x_isi K) (by rfl) T.b_isinstance (by decide +kernel) (pa_cons (pv 0) (pa_cons (pe_bltn (v := .ty "str") (by rfl) T.b_str (by decide +kernel) rfl) pa_nil))))) (pw_or (pt_cmpR op_lt (pe_callB (x_len K) (by rfl) T.b_len (by decide +kernel) (pa_cons (pv 0) pa_nil)) pe_int (nomark _)) (pw_or1 (pt_cmpR op_gt (pe_callB (x_len K) (by rfl) T.b_len (by decide +kernel) (pa_cons (pv 0) pa_nil)) pe_int (nomark _)))))) (pss_one (ps_ret pe_bl)) pss_nil)
  (pss_one (ps_ret (pe_and (pe_cmpR L2.op_inS (pe_ix (x_ix K) (pv 0) pe_int (fun _ _ => rfl)) (pe_glob (v := (.str _)) (by rfl) T2.c_LETTERS ⟨_, rfl⟩) (by with_unfolding_all rfl)) (pe_one (pe_callB (x_all K) (by rfl) T.b_all (by decide +kernel) (pa_cons (pe_lc (own := [("sign", 1)]) (g := gName 1) (tt := tYes) rfl sc_is_name.nd (pi_str (pv 0)) (blkOk_by (own := [("sign", 1)]) (N := N_is_name) (sc := defScope s_is_name) (by decide +kernel)) (fun _ _ _ _ _ => (pg_name (i := 1) sc_is_name.nd rfl (Or.inl rfl))) (fun _ _ _ _ _ => pts_nil) (fun _ _ _ _ _ => (pe_cmpR L2.op_inS (pv 1) (pe_glob (v := (.str _)) (by rfl) T2.c_SIGNS ⟨_, rfl⟩) (by with_unfolding_all rfl)))) pa_nil))))))), ?_⟩
    show WS _ _ [.val (.str z), .un] n _
    unfold isName at hz
    simp only [Bool.and_eq_true, decide_eq_true_eq] at hz
    obtain ⟨⟨⟨h1, h8⟩, hL⟩, hA⟩ := hz
    have hlen : z.length = z.cps.size := rfl
    have hd : lenD (.str z) = some ((z.cps.size : Nat) : Int) := by
      show (if z.length ≤ sizeLine then _ else _) = _
      rw [if_pos (by rw [hlen, sizeLine_eq]; omega)]; rfl
    walk_at "ws1"
    walk_at "ws1"
    walk_at "go"
    refine we_ty ?_
    walk_at "go"
    refine rc_isi (b := true) rfl (by decide +kernel) ?_
    refine ⟨_, rfl, itF rfl ?_⟩
    walk_at "go"
    refine rc_len hd ?_
    walk_at "go"
    refine decF (by omega) ?_
    walk_at "go"
    refine rc_len hd ?_
    walk_at "go"
    refine decF (by omega) ?_
    walk_at "ws1"
    walk_at "ws1"
    walk_at "go"
    have hix : ixD (.str z) 0 = some (.str ⟨#[z.cps.toList.headD 0]⟩) := by
      show (if z.length ≤ sizeLine then (atI z.cps.toList ((0 : Nat) : Int)).map _ else none) = _
      rw [if_pos (by rw [hlen, sizeLine_eq]; omega)]
      have hz0 : z.cps.toList[0]? = some (z.cps.toList.headD 0) := by
        cases hq : z.cps.toList with
        | nil => have : z.cps.toList.length = 0 := by rw [hq]; rfl
                 rw [Array.length_toList] at this; omega
        | cons u l => rfl
      rw [atI_nat hz0]; rfl
    refine r2_ix hix ?_
    walk_at "go"
    refine r2_sign ?_
    refine ⟨_, rfl, decT hL ?_⟩
    refine we_cb (wa_cons (wf_we (wf_map inSigns (fun _ => true) ?_)))
    refine wi_str ?_
    walk_at "go"
    refine ⟨?_, fun d hd m => ?_, ?_⟩
    · unfold signsD; rw [List.length_map, Array.length_toList]; omega
    · obtain ⟨u, _, rfl⟩ := List.mem_map.mp hd
      walk_at "go"
      refine ⟨rfl, rfl, fun _ => ?_⟩
      walk_at "go"
      exact r2_sign ⟨rfl, rfl⟩
    rw [filt_all]
    refine wa_nil ?_
    have e1 : (signsD z).map inSigns = (z.cps.toList.map fun u => decide (u ∈ signs36.cps.toList)).map D.bl := by
      unfold signsD
      rw [List.map_map, List.map_map]; rfl
    rw [e1]
    refine rc_all ?_
    have e2 : (z.cps.toList.map fun u => decide (u ∈ signs36.cps.toList)).all id = true := by
      rw [List.all_map]; exact hA
    rw [e2]
    exact kk
end
end Toy
namespace Toy
open PySem L2 L3
local macro_rules | `(tactic| walk_at "we1") => `(tactic| first
  | ((with_reducible refine' we_var ?hv ?_); (case hv => rfl))
  | (with_reducible refine we_int ?_)
  | (with_reducible refine we_str ?_)
  | (with_reducible refine we_bl ?_)
  | (with_reducible refine we_non ?_)
  | ((with_reducible refine' we_dix ?hv ?_); (case hv => rfl))
  | (with_reducible refine we_op ?_)
  | ((with_reducible refine' we_dget ?hv ?_); (case hv => rfl))
  | (with_reducible refine we_count ?_)
  | (with_reducible refine we_cb ?_)
  | (with_reducible refine we_call0 ?_)
  | (with_reducible refine we_tup ?_)
  | (with_reducible refine we_lst ?_)
  | (with_reducible refine we_if ?_)
  | (with_reducible refine we_not ?_)
  | (with_reducible refine we_and ?_)
  | (with_reducible refine we_or ?_)
  | (with_reducible refine we_isN ?_)
  | (with_reducible refine we_notN ?_)
  | (with_reducible refine we_sl ?_)
  | (with_reducible refine wa_cons ?_)
  | (with_reducible refine wa_nil ?_)
  | (with_reducible refine wt_test ?_)
  | (with_reducible refine wt_B ?_)
  | (with_reducible refine wt_and ?_)
  | (with_reducible refine wt_or ?_)
  | (with_reducible refine wt_not ?_)
  | (with_reducible refine wt_yes ?_)
  | (with_reducible refine wo_none ?_)
  | (with_reducible refine wo_some ?_)
  | ((with_reducible refine' r2_ix ?hx ?_); (case hx => rfl))
  | (with_reducible refine r2_isN ?_)
  | (with_reducible refine r2_notN ?_)
  | (with_reducible refine r2_lt ?_)
  | (with_reducible refine r2_le ?_)
  | (with_reducible refine r2_gt ?_)
  | (with_reducible refine r2_ge ?_)
  | (with_reducible refine r2_sub ?_)
  | (with_reducible refine r2_addI ?_)
  | (with_reducible refine r2_eqI ?_)
  | (with_reducible refine r2_neI ?_)
  | (with_reducible refine rc_int ?_)
  | (with_reducible refine rc_abs ?_)
  | ((with_reducible refine' rc_len ?hl ?_); (case hl => rfl))
  | (with_reducible refine wi_seq ?_)
  | (with_reducible refine wi_rng1 ?_)
  | (with_reducible refine wi_rng2 ?_)
  | (with_reducible refine wi_enum ?_)
  | (refine ⟨_, rfl, ?_⟩))
local macro_rules | `(tactic| walk_at "ws1") => `(tactic| first
  | (with_reducible refine ws_seq ?_)
  | (with_reducible refine ws_set ?_)
  | (with_reducible refine ws_ret ?_)
  | (with_reducible refine ws_if ?_)
  | (with_reducible refine ws_next ?_)
  | (with_reducible refine ws_asg ?_))
local macro_rules | `(tactic| walk_at "wg1") => `(tactic| first
  | (with_reducible refine wg_name (rw_name (by decide)) ?_)
  | (with_reducible refine wg_name (fun _ _ => trivial) ?_)
  | ((with_reducible refine' wg_tup ?hl ?_); (case hl => rfl))
  | (with_reducible refine wgs_cons rw_trans ?_)
  | (with_reducible refine wgs_nil rw_refl ?_)
  | (with_reducible refine wgs_cons (fun _ _ _ _ _ => trivial) ?_)
  | (with_reducible refine wgs_nil (fun _ => trivial) ?_))
local macro_rules | `(tactic| walk_at "go") => `(tactic| repeat' (first | walk_at "we1" | walk_at "wg1"))
section
variable {P : Program} {w : World} {K : PySem.W.Frag} {mg : Str → Option Value} {base : Heap}
/-! events -/
structure Ev where
  nm : Str
  at_ : Int
  kind : Str
  needs : List Str
def evF (e : Ev) : List (Str × D) := [("name", .str e.nm), ("end", .int e.at_), ("kind", .str e.kind), ("needs", .tup (e.needs.map .str))]
abbrev evD (C : Addr) (e : Ev) : D := .obj C (evF e)
structure EvT (K : PySem.W.Frag) (C : Addr) : Prop where
  cl : Cls K C
  n1 : NoAttr K C "name"
  n2 : NoAttr K C "end"
  n3 : NoAttr K C "kind"
  n4 : NoAttr K C "needs"
def spEv : SpecI := fun bag n ds Φ => ∃ (e : Ev), ds = [.str e.nm, .int e.at_, .str e.kind, .tup (e.needs.map .str)] ∧ Φ n (evF e)
abbrev s_Event___init : Stmt := inClass (top 14) 0
abbrev N_Event___init : List Str := ["self", "name", "end", "kind", "needs"]
theorem sc_Event___init : FnScope N_Event___init ["self", "name", "end", "kind", "needs"] (defScope s_Event___init) := ⟨rfl, rfl, rfl, by decide +kernel, rfl, by decide +kernel, by decide +kernel⟩

theorem ok_event {f C : Addr} {fd : FuncData} {dvs : List V} (F : FunD K "__init__" "Event.__init__" (defArgs s_Event___init) (defBody s_Event___init) (defScope s_Event___init) dvs [] f fd) (T : Txt mg) (TE : EvT K C) : FnOk P w K mg base CX0 1 f fd ["self", "name", "end", "kind", "needs"] (spI K C spEv) := by
  refine fn_ID F sc_Event___init (fun bag n ds Φ h => ?_) (fun cdv A outer s H E O bag n ds Φ p dx hr h => ?_)
  · obtain ⟨e, he, _⟩ := h
    rw [he]; rfl
  · obtain ⟨e, he, kk⟩ := h
    subst he
    refine ⟨_, (pss_cons (x_sfld K (ps_fld (pv 0) (pv 1) rfl))
  (pss_cons (x_sfld K (ps_fld (pv 0) (pv 2) rfl))
  (pss_cons (x_sfld K (ps_fld (pv 0) (pv 3) rfl))
  (pss_one (x_sfld K (ps_fld (pv 0) (pe_callTy (x_tup K) (by rfl) T.b_tuple (by decide +kernel) (pa_cons (pv 4) pa_nil)) rfl)))))), ?_⟩
    show WN _ _ _ _ _ _ _ _ _ [.val (.adr p), .val (.str e.nm), .val (.int e.at_), .val (.str e.kind), .val (.tup (e.needs.map .str))] n [] _
    refine wn_seq TE.cl TE.n1 (by decide) rfl fun H0 => ?_
    walk_at "go"
    refine wn_seq TE.cl TE.n2 (by show 1 < 1000; decide) rfl fun H0 => ?_
    walk_at "go"
    refine wn_seq TE.cl TE.n3 (by show 2 < 1000; decide) rfl fun H0 => ?_
    walk_at "go"
    refine wn_st TE.cl TE.n4 (by show 3 < 1000; decide) rfl fun H0 => ?_
    walk_at "go"
    refine rc_tup rfl ?_
    exact kk
end
end Toy
namespace Toy
open PySem L2 L3
local macro_rules | `(tactic| walk_at "we1") => `(tactic| first
  | ((with_reducible refine' we_var ?hv ?_); (case hv => rfl))
  | (with_reducible refine we_int ?_)
  | (with_reducible refine we_str ?_)
  | (with_reducible refine we_bl ?_)
  | (with_reducible refine we_non ?_)
  | ((with_reducible refine' we_dix ?hv ?_); (case hv => rfl))
  | (with_reducible refine we_op ?_)
  | ((with_reducible refine' we_dget ?hv ?_); (case hv => rfl))
  | (with_reducible refine we_count ?_)
  | (with_reducible refine we_cb ?_)
  | (with_reducible refine we_call0 ?_)
  | (with_reducible refine we_tup ?_)
  | (with_reducible refine we_lst ?_)
  | (with_reducible refine we_if ?_)
  | (with_reducible refine we_not ?_)
  | (with_reducible refine we_and ?_)
  | (with_reducible refine we_or ?_)
  | (with_reducible refine we_isN ?_)
  | (with_reducible refine we_notN ?_)
  | (with_reducible refine we_sl ?_)
  | (with_reducible refine wa_cons ?_)
  | (with_reducible refine wa_nil ?_)
  | (with_reducible refine wt_test ?_)
  | (with_reducible refine wt_B ?_)
  | (with_reducible refine wt_and ?_)
  | (with_reducible refine wt_or ?_)
  | (with_reducible refine wt_not ?_)
  | (with_reducible refine wt_yes ?_)
  | (with_reducible refine wo_none ?_)
  | (with_reducible refine wo_some ?_)
  | ((with_reducible refine' r2_ix ?hx ?_); (case hx => rfl))
  | (with_reducible refine r2_isN ?_)
  | (with_reducible refine r2_notN ?_)
  | (with_reducible refine r2_lt ?_)
  | (with_reducible refine r2_le ?_)
  | (with_reducible refine r2_gt ?_)
  | (with_reducible refine r2_ge ?_)
  | (with_reducible refine r2_sub ?_)
  | (with_reducible refine r2_addI ?_)
  | (with_reducible refine r2_eqI ?_)
  | (with_reducible refine r2_neI ?_)
  | (with_reducible refine rc_int ?_)
  | (with_reducible refine rc_abs ?_)
  | ((with_reducible refine' rc_len ?hl ?_); (case hl => rfl))
  | (with_reducible refine wi_seq ?_)
  | (with_reducible refine wi_rng1 ?_)
  | (with_reducible refine wi_rng2 ?_)
  | (with_reducible refine wi_enum ?_)
  | (refine ⟨_, rfl, ?_⟩))
local macro_rules | `(tactic| walk_at "ws1") => `(tactic| first
  | (with_reducible refine ws_seq ?_)
  | (with_reducible refine ws_set ?_)
  | (with_reducible refine ws_ret ?_)
  | (with_reducible refine ws_if ?_)
  | (with_reducible refine ws_next ?_)
  | (with_reducible refine ws_asg ?_))
local macro_rules | `(tactic| walk_at "wg1") => `(tactic| first
  | (with_reducible refine wg_name (rw_name (by decide)) ?_)
  | (with_reducible refine wg_name (fun _ _ => trivial) ?_)
  | ((with_reducible refine' wg_tup ?hl ?_); (case hl => rfl))
  | (with_reducible refine wgs_cons rw_trans ?_)
  | (with_reducible refine wgs_nil rw_refl ?_)
  | (with_reducible refine wgs_cons (fun _ _ _ _ _ => trivial) ?_)
  | (with_reducible refine wgs_nil (fun _ => trivial) ?_))
local macro_rules | `(tactic| walk_at "go") => `(tactic| repeat' (first | walk_at "we1" | walk_at "wg1"))
section
variable {P : Program} {w : World} {K : PySem.W.Frag} {mg : Str → Option Value} {base : Heap}
/-! an event's faults: none -/
structure Txt3 (K : PySem.W.Frag) (mg : Str → Option Value) (tE tN : Tok) (aK : Addr) : Prop where
  b : Txt mg
  c_MOST_ENDS : mg "MOST_ENDS" = some (.int 5 tE)
  c_MOST_NEEDS : mg "MOST_NEEDS" = some (.int 3 tN)
  c_KINDS : mg "KINDS" = some (.ref aK)
  kinds : ∀ H, Rp K H (.ref aK) (.tup [.str "query", .str "action"])
def goodEv (elder : List Str) (e : Ev) : Prop := isName e.nm = true ∧ e.nm ∉ elder ∧ 1 ≤ e.at_ ∧ e.at_ ≤ 5 ∧ (e.kind = "query" ∨ e.kind = "action") ∧ e.needs.length ≤ 3 ∧ (∀ x ∈ e.needs, x ∈ elder) ∧ e.needs.Nodup ∧ fit (.str e.nm) = true ∧ fit (.str e.kind) = true ∧ ∀ x ∈ e.needs, fit (.str x) = true
def spFault (C : Addr) : L3.Spec := fun bag n ds Φ => ∃ (e : Ev) (elder : List Str), ds = [evD C e, .lst (elder.map .str)] ∧ goodEv elder e ∧ elder.length ≤ 20 ∧ (∀ x ∈ elder, fit (.str x) = true) ∧ Φ n .non
theorem inD_str (x : Str) : ∀ l : List Str, inD (.str x) (l.map .str) = decide (x ∈ l) := fun l => by
  unfold inD
  rw [List.any_map]
  by_cases h : x ∈ l
  · rw [decide_eq_true h]
    refine List.any_eq_true.mpr ⟨x, h, ?_⟩
    show (x == x) = true
    simp
  · rw [decide_eq_false h]
    refine List.any_eq_false.mpr fun y hy => ?_
    show ¬ (y == x) = true
    simp only [beq_iff_eq]
    exact fun q => h (q ▸ hy)
theorem fit_strs {l : List Str} (h : ∀ x ∈ l, fit (.str x) = true) : fit (.lst (l.map .str)) = true := (fit_list fun d hd => by
  obtain ⟨x, hx, rfl⟩ := List.mem_map.mp hd
  exact ⟨h x hx, Nat.zero_le _⟩).1
abbrev s_event_fault : Stmt := top 15
abbrev N_event_fault : List Str := ["event", "elder", "place", "need"]
theorem sc_event_fault : FnScope N_event_fault ["event", "elder"] (defScope s_event_fault) := ⟨rfl, rfl, rfl, by decide +kernel, rfl, by decide +kernel, by decide +kernel⟩

theorem ok_fault {f C aK : Addr} {fd : FuncData} {tE tN : Tok} (F : Fun K "event_fault" "event_fault" s_event_fault f fd) (T3 : Txt3 K mg tE tN aK) (TE : EvT K C) (D_is_name : Dn P w K mg base "is_name" 1 ["thing"] [] [] spName) (D_is_whole : Dn P w K mg base "is_whole" 1 ["thing"] [] [] spWhole) : FnOk P w K mg base CX0 2 f fd ["event", "elder"] (spD K (spFault C)) := by
  refine fn_D F sc_event_fault (fun bag n ds Φ h => ?_) (fun cdv A outer s H E O bag n ds Φ hr h => ?_)
  · obtain ⟨e, l, he, _⟩ := h
    rw [he]; rfl
  · obtain ⟨e, elder, he, ⟨g1, g2, g3, g4, g5, g6, g7, g8, g9, g10, g11⟩, hel, hfe, kk⟩ := h
    subst he
    have T := T3.b
    refine ⟨_, (pss_cons (ps_if (pt_not (pt_val (pe_call D_is_name.G (hr.mono (by decide)) (by rfl) D_is_name.m D_is_name.k D_is_name.b D_is_name.v pass0 (pa_cons (x_fld K (pe_fld (pv 0) rfl)) pa_nil)))) (pss_one (ps_ret pe_str)) pss_nil)
  (pss_cons (ps_if (pt_cmpR (x_in K (by exact hu65 hr)) (x_fld K (pe_fld (pv 0) rfl)) (pv 1) (by with_unfolding_all rfl)) (pss_one (ps_ret pe_str)) pss_nil)
  (pss_cons (ps_if (PW.pt (pw_or (pt_not (pt_val (pe_call D_is_whole.G (hr.mono (by decide)) (by rfl) D_is_whole.m D_is_whole.k D_is_whole.b D_is_whole.v pass0 (pa_cons (x_fld K (pe_fld (pv 0) rfl)) pa_nil)))) (pw_or (pt_cmpR op_lt (x_fld K (pe_fld (pv 0) rfl)) pe_int (nomark _)) (pw_or1 (pt_cmpR op_gt (x_fld K (pe_fld (pv 0) rfl)) (pe_glob (v := (.int _)) (by rfl) T3.c_MOST_ENDS ⟨_, rfl⟩) (nomark _)))))) (pss_one (ps_ret pe_str)) pss_nil)
  (pss_cons (ps_if (pt_cmpR (x_notIn K (by exact hu65 hr)) (x_fld K (pe_fld (pv 0) rfl)) (pe_glob (v := (.ref _)) (by rfl) T3.c_KINDS rfl) (by with_unfolding_all rfl)) (pss_one (ps_ret pe_str)) pss_nil)
  (pss_cons (ps_if (pt_cmpR op_gt (pe_callB (x_len K) (by rfl) T.b_len (by decide +kernel) (pa_cons (x_fld K (pe_fld (pv 0) rfl)) pa_nil)) (pe_glob (v := (.int _)) (by rfl) T3.c_MOST_NEEDS ⟨_, rfl⟩) (nomark _)) (pss_one (ps_ret pe_str)) pss_nil)
  (pss_cons (ps_for PassesOwn.never rfl (x_enumT K (by rfl) T.b_enumerate (pa_cons (x_fld K (pe_fld (pv 0) rfl)) pa_nil)) (x_tgt K (pg_tup (by rfl) (pgs_cons (pg_name (i := 2) sc_event_fault.nd rfl (Or.inl rfl)) (pgs_cons (pg_name (i := 3) sc_event_fault.nd rfl (Or.inl rfl)) pgs_nil)))) (pss_one (ps_if (PW.pt (pw_or (pt_cmpR (x_notIn K (by exact hu65 hr)) (pv 3) (pv 1) (by with_unfolding_all rfl)) (pw_or1 (pt_cmpR (x_in K (by exact hu65 hr)) (pv 3) (pe_slice (x_sl K) (x_fld K (pe_fld (pv 0) rfl)) po_none (po_some (pv 2))) (by with_unfolding_all rfl))))) (pss_one (ps_ret pe_str)) pss_nil)))
  (pss_one (ps_ret pe_non)))))))), ?_⟩
    show WS _ _ [.val (evD C e), .val (.lst (elder.map .str)), .un, .un] n _
    walk_at "ws1"
    walk_at "ws1"
    walk_at "go"
    refine we_fld TE.cl TE.n1 ?_
    walk_at "go"
    refine ⟨g1, ?_⟩
    refine ⟨_, rfl, itF rfl ?_⟩
    walk_at "ws1"
    walk_at "ws1"
    walk_at "ws1"
    walk_at "go"
    refine we_fld TE.cl TE.n1 ?_
    walk_at "go"
    refine r2_in rfl g9 (fit_strs hfe) ?_
    rw [inD_str]
    refine ⟨_, rfl, decF g2 ?_⟩
    walk_at "ws1"
    walk_at "ws1"
    walk_at "ws1"
    walk_at "go"
    refine we_fld TE.cl TE.n2 ?_
    walk_at "go"
    refine itF rfl ?_
    walk_at "go"
    refine we_fld TE.cl TE.n2 ?_
    walk_at "go"
    refine decF (by omega) ?_
    walk_at "go"
    refine we_fld TE.cl TE.n2 ?_
    walk_at "go"
    refine decF (by omega) ?_
    walk_at "ws1"
    walk_at "ws1"
    walk_at "ws1"
    walk_at "go"
    refine we_fld TE.cl TE.n3 ?_
    walk_at "go"
    refine we_const T3.kinds ?_
    have fk : fit (.lst (([("query" : Str), "action"]).map .str)) = true := by decide +kernel
    refine r2_notIn (ds := ([("query" : Str), "action"]).map .str) rfl g10 fk ?_
    rw [inD_str]
    have hk : e.kind ∈ ([("query" : Str), "action"]) := by
      rcases g5 with h | h
      · rw [h]; exact List.mem_cons_self
      · rw [h]; exact List.mem_cons_of_mem _ List.mem_cons_self
    rw [decide_eq_true hk]
    refine ⟨_, rfl, itF rfl ?_⟩
    walk_at "ws1"
    walk_at "ws1"
    walk_at "ws1"
    walk_at "go"
    refine we_fld TE.cl TE.n4 ?_
    walk_at "go"
    refine decF (by rw [List.length_map]; omega) ?_
    walk_at "ws1"
    walk_at "ws1"
    refine ws_for ?_
    refine wi_enumT ?_
    walk_at "go"
    refine we_fld TE.cl TE.n4 ?_
    walk_at "we1"
    refine ⟨_, rfl, _, rfl, ?_⟩
    walk_at "we1"
    refine ⟨_, rfl, fun i m ρ => m = n ∧ ∃ x2 x3, ρ = [.val (evD C e), .val (.lst (elder.map .str)), x2, x3], ⟨rfl, _, _, rfl⟩, ?_, ?_⟩
    · rintro i m ρ1 d hd ⟨rfl, x2, x3, rfl⟩
      obtain ⟨d1, hd1, rfl⟩ := enumD_get hd
      obtain ⟨x, hx, rfl, hxm, _⟩ := map_at hd1
      have hil : i ≤ (e.needs.map D.str).length := Nat.le_of_lt (List.getElem?_eq_some_iff.mp hd1).1
      have hz : (0 : Int) + (i : Nat) = (i : Nat) := by omega
      rw [hz]
      walk_at "go"
      walk_at "ws1"
      walk_at "go"
      refine r2_notIn rfl (g11 x hxm) (fit_strs hfe) ?_
      rw [inD_str, decide_eq_true (g7 x hxm)]
      refine ⟨_, rfl, itF rfl ?_⟩
      walk_at "go"
      refine we_fld TE.cl TE.n4 ?_
      walk_at "go"
      rw [cut_to hil, ← List.map_take]
      refine r2_in rfl (g11 x hxm) (fit_strs fun y hy => g11 y (List.mem_of_mem_take hy)) ?_
      rw [inD_str]
      have hnot : x ∉ e.needs.take i := fun q => by
        have hdrop : x ∈ e.needs.drop i := List.mem_of_getElem? (i := 0) (by rw [List.getElem?_drop]; exact hx)
        have nd := g8
        rw [← List.take_append_drop i e.needs] at nd
        exact (List.nodup_append.mp nd).2.2 x q x hdrop rfl
      refine ⟨_, rfl, decF hnot ?_⟩
      walk_at "ws1"
      exact ⟨rfl, _, _, rfl⟩
    · rintro m ρ1 ⟨rfl, x2, x3, rfl⟩
      walk_at "ws1"
      walk_at "go"
      exact kk
end
end Toy
namespace Toy
open PySem L2 L3
/-! ### the data: entries, copies -/
structure Ent where
  nm : Str
  ks : List Int
  v : Int
  deriving DecidableEq
def entD (e : Ent) : D := .tup [.str e.nm, .tup (e.ks.map .int), .int e.v]
def copyD (es : List Ent) : D := .tup (es.map entD)
def keyO : Option (List Int) → D
  | none => .non
  | some ks => .tup (ks.map .int)
/-- what fits the model: names without odd signs, keys not too long -/
def okE (e : Ent) : Prop := fit (entD e) = true ∧ keyD (entD e) = true
theorem eq_ints : ∀ (a b : List Int), PyData.eqvAll (dpyAll (a.map D.int)) (dpyAll (b.map D.int)) = decide (a = b)
  | [], [] => by simp [dpyAll, PyData.eqvAll]
  | [], _ :: _ => by simp [dpyAll, PyData.eqvAll]
  | _ :: _, [] => by simp [dpyAll, PyData.eqvAll]
  | x :: a, y :: b => by
    have ih := eq_ints a b
    show ((x == y) && PyData.eqvAll (dpyAll (a.map D.int)) (dpyAll (b.map D.int))) = _
    rw [ih]
    by_cases h : x = y
    · subst h; by_cases h2 : a = b <;> simp [h2]
    · simp [h]
theorem eq_str (a b : Str) : eqD (.str a) (.str b) = decide (a = b) := by
  show (a == b) = decide (a = b)
  by_cases h : a = b <;> simp [h]
theorem eq_tupI (a b : List Int) : eqD (.tup (a.map .int)) (.tup (b.map .int)) = decide (a = b) := eq_ints a b
theorem eq_ent (a b : Ent) : eqD (entD a) (entD b) = decide (a = b) := by
  have h1 : eqD (entD a) (entD b) = ((a.nm == b.nm) && (PyData.eqvAll (dpyAll (a.ks.map D.int)) (dpyAll (b.ks.map D.int)) && ((a.v == b.v) && true))) := rfl
  rw [h1, eq_ints]
  obtain ⟨n1, k1, v1⟩ := a
  obtain ⟨n2, k2, v2⟩ := b
  by_cases e1 : n1 = n2 <;> by_cases e2 : k1 = k2 <;> by_cases e3 : v1 = v2 <;> simp [e1, e2, e3]
theorem fitAll_mem {ds : List D} {d : D} (h : fit (.tup ds) = true) (hd : d ∈ ds) : fit d = true := by
  have hp := fit_p h
  have hs := fit_s h
  unfold fit
  rw [Bool.and_eq_true]
  refine ⟨plainAll_mem hp hd, ?_⟩
  unfold SeqAt.shaped at hs ⊢
  rw [Bool.and_eq_true] at hs ⊢
  have hc : PyData.canLayAll0 (dpyAll ds) = true := hs.1
  have hdp : PyData.depthAll (dpyAll ds) + 1 ≤ 64 := of_decide_eq_true hs.2
  have key : ∀ ds : List D, d ∈ ds → PyData.canLayAll0 (dpyAll ds) = true → PyData.canLay0 (dpy d) = true ∧ PyData.depth (dpy d) ≤ PyData.depthAll (dpyAll ds) := by
    intro ds
    induction ds with
    | nil => intro q; cases q
    | cons x xs ih =>
      intro q hc
      have hc' : (PyData.canLay0 (dpy x) && PyData.canLayAll0 (dpyAll xs)) = true := hc
      rw [Bool.and_eq_true] at hc'
      show _ ∧ _ ≤ max (PyData.depth (dpy x)) (PyData.depthAll (dpyAll xs))
      rcases List.mem_cons.mp q with e | e
      · rw [e]; exact ⟨hc'.1, by omega⟩
      · obtain ⟨g1, g2⟩ := ih e hc'.2
        exact ⟨g1, by omega⟩
  obtain ⟨g1, g2⟩ := key ds hd hc
  exact ⟨g1, decide_eq_true (by omega)⟩
theorem ok_nm {e : Ent} (h : okE e) : fit (.str e.nm) = true := fitAll_mem h.1 (by simp)
theorem ok_ks {e : Ent} (h : okE e) : fit (.tup (e.ks.map .int)) = true := fitAll_mem h.1 (by simp)
/-! ### plain lists -/
section
variable {α : Type} [DecidableEq α]
def firsts (l : List α) : List α := l.foldl (fun acc x => if x ∈ acc then acc else acc ++ [x]) []
theorem firsts_snoc (l : List α) (x : α) : firsts (l ++ [x]) = if x ∈ firsts l then firsts l else firsts l ++ [x] := by
  unfold firsts
  rw [List.foldl_append]; rfl
theorem snoc_ind {P : List α → Prop} (h0 : P []) (h1 : ∀ l x, P l → P (l ++ [x])) (l : List α) : P l := by
  have : ∀ m : List α, P m.reverse := by
    intro m
    induction m with
    | nil => exact h0
    | cons x m ih => rw [List.reverse_cons]; exact h1 _ _ ih
  have q := this l.reverse
  rw [List.reverse_reverse] at q
  exact q
theorem mem_firsts (l : List α) : ∀ x, x ∈ firsts l ↔ x ∈ l := by
  refine snoc_ind (P := fun l => ∀ x, x ∈ firsts l ↔ x ∈ l) (fun x => Iff.rfl) (fun l y ih x => ?_) l
  rw [firsts_snoc]
  by_cases h : y ∈ firsts l
  · rw [if_pos h, ih]
    constructor
    · exact fun q => List.mem_append_left _ q
    · intro q
      rcases List.mem_append.mp q with q | q
      · exact q
      · rw [List.mem_singleton.mp q]; exact (ih y).mp h
  · rw [if_neg h]
    simp [ih]
theorem nodup_firsts (l : List α) : (firsts l).Nodup := by
  refine snoc_ind (P := fun l => (firsts l).Nodup) List.nodup_nil (fun l y ih => ?_) l
  rw [firsts_snoc]
  by_cases h : y ∈ firsts l
  · rw [if_pos h]; exact ih
  · rw [if_neg h]
    exact List.nodup_append.mpr ⟨ih, by simp, fun a ha b hb => by rw [List.mem_singleton.mp hb]; exact fun e => h (e ▸ ha)⟩
theorem firsts_le (l : List α) : (firsts l).length ≤ l.length := by
  refine snoc_ind (P := fun l => (firsts l).length ≤ l.length) (Nat.le_refl _) (fun l y ih => ?_) l
  rw [firsts_snoc, List.length_append]
  by_cases h : y ∈ firsts l
  · rw [if_pos h]; simp; omega
  · rw [if_neg h, List.length_append]; simp; omega
/-- those that do not stand earlier -/
def earliest : List α → List α → List α
  | _, [] => []
  | pre, x :: l => if x ∈ pre then earliest (pre ++ [x]) l else x :: earliest (pre ++ [x]) l
theorem mem_earliest : ∀ (l pre : List α) (x : α), x ∈ earliest pre l ↔ x ∈ l ∧ x ∉ pre
  | [], pre, x => by simp [earliest]
  | y :: l, pre, x => by
    unfold earliest
    have ih := mem_earliest l (pre ++ [y]) x
    by_cases h : y ∈ pre
    · rw [if_pos h, ih]
      constructor
      · rintro ⟨a, b⟩
        exact ⟨List.mem_cons_of_mem _ a, fun q => b (List.mem_append_left _ q)⟩
      · rintro ⟨a, b⟩
        have ne : x ≠ y := fun e => b (e ▸ h)
        refine ⟨(List.mem_cons.mp a).resolve_left ne, fun q => ?_⟩
        rcases List.mem_append.mp q with q | q
        · exact b q
        · exact ne (List.mem_singleton.mp q)
    · rw [if_neg h, List.mem_cons, ih]
      constructor
      · rintro (e | ⟨a, b⟩)
        · subst e; exact ⟨List.mem_cons_self, h⟩
        · exact ⟨List.mem_cons_of_mem _ a, fun q => b (List.mem_append_left _ q)⟩
      · rintro ⟨a, b⟩
        by_cases e : x = y
        · exact .inl e
        · refine .inr ⟨(List.mem_cons.mp a).resolve_left e, fun q => ?_⟩
          rcases List.mem_append.mp q with q | q
          · exact b q
          · exact e (List.mem_singleton.mp q)
theorem nodup_earliest : ∀ (l pre : List α), (earliest pre l).Nodup
  | [], _ => List.nodup_nil
  | y :: l, pre => by
    unfold earliest
    by_cases h : y ∈ pre
    · rw [if_pos h]; exact nodup_earliest l _
    · rw [if_neg h]
      exact List.nodup_cons.mpr ⟨fun q => ((mem_earliest l _ _).mp q).2 (by simp), nodup_earliest l _⟩
theorem sub_earliest : ∀ (l pre : List α), (earliest pre l).Sublist l
  | [], _ => List.Sublist.refl _
  | y :: l, pre => by
    unfold earliest
    by_cases h : y ∈ pre
    · rw [if_pos h]; exact (sub_earliest l _).cons _
    · rw [if_neg h]; exact (sub_earliest l _).cons_cons _
end
/-! ### the order of entries -/
abbrev leE (a b : Ent) : Bool := LeD (entD a) (entD b)
def sortE (E : List Ent) : List Ent := E.mergeSort leE
theorem total_D : PySem.W.TotalLe LeD := PySem.W.sortLe_total _ _ _
theorem total_E : PySem.W.TotalLe leE := ⟨fun a b c h1 h2 => total_D.trans _ _ _ h1 h2, fun a b => total_D.total _ _⟩
theorem toks_ints : ∀ (a b : List Int) (A B : List (Int ⊕ List Nat)), PySem.W.keyToksAll (dpyAll (a.map D.int)) ++ A = PySem.W.keyToksAll (dpyAll (b.map D.int)) ++ B → a = b ∧ A = B
  | [], [], A, B, h => by
    have h' : Sum.inl 0 :: A = Sum.inl 0 :: B := h
    exact ⟨rfl, (List.cons.inj h').2⟩
  | [], y :: b, A, B, h => by
    have h' : (Sum.inl 0 : Int ⊕ List Nat) :: A = Sum.inl 1 :: (Sum.inl y :: (PySem.W.keyToksAll (dpyAll (b.map D.int)) ++ B)) := h
    exact absurd (Sum.inl.inj (List.cons.inj h').1) (by decide)
  | x :: a, [], A, B, h => by
    have h' : (Sum.inl 1 : Int ⊕ List Nat) :: (Sum.inl x :: (PySem.W.keyToksAll (dpyAll (a.map D.int)) ++ A)) = Sum.inl 0 :: B := h
    exact absurd (Sum.inl.inj (List.cons.inj h').1) (by decide)
  | x :: a, y :: b, A, B, h => by
    have h' : (Sum.inl 1 : Int ⊕ List Nat) :: (Sum.inl x :: (PySem.W.keyToksAll (dpyAll (a.map D.int)) ++ A)) = Sum.inl 1 :: (Sum.inl y :: (PySem.W.keyToksAll (dpyAll (b.map D.int)) ++ B)) := h
    have h1 := (List.cons.inj h').2
    have h2 := List.cons.inj h1
    obtain ⟨e1, e2⟩ := toks_ints a b A B h2.2
    exact ⟨by rw [Sum.inl.inj h2.1, e1], e2⟩
theorem anti_E (a b : Ent) (h1 : leE a b = true) (h2 : leE b a = true) : a = b := by
  have h1' : (!PySem.W.dataLt (dpy (entD b)) (dpy (entD a))) = true := h1
  have h2' : (!PySem.W.dataLt (dpy (entD a)) (dpy (entD b))) = true := h2
  have h1'' : PySem.W.dataLt (dpy (entD b)) (dpy (entD a)) = false := by simpa using h1'
  have h2'' : PySem.W.dataLt (dpy (entD a)) (dpy (entD b)) = false := by simpa using h2'
  have e : PySem.W.keyToks (dpy (entD a)) = PySem.W.keyToks (dpy (entD b)) := (PyProof.Rows.listOrd PyProof.Rows.itemOrd).total _ _ h2'' h1''
  have e' : Sum.inl 1 :: Sum.inr a.nm.cps.toList :: Sum.inl 1 :: (PySem.W.keyToksAll (dpyAll (a.ks.map D.int)) ++ (Sum.inl 1 :: Sum.inl a.v :: [Sum.inl 0])) = (Sum.inl 1 :: Sum.inr b.nm.cps.toList :: Sum.inl 1 :: (PySem.W.keyToksAll (dpyAll (b.ks.map D.int)) ++ (Sum.inl 1 :: Sum.inl b.v :: [Sum.inl 0])) : List (Int ⊕ List Nat)) := e
  have e1 := List.cons.inj (List.cons.inj e').2
  obtain ⟨g1, g2⟩ := toks_ints _ _ _ _ (List.cons.inj e1.2).2
  have g3 := List.cons.inj (List.cons.inj g2).2
  obtain ⟨n1, k1, v1⟩ := a
  obtain ⟨n2, k2, v2⟩ := b
  have q1 : n1 = n2 := PySem.W.str_of_cps (Sum.inr.inj e1.1)
  have q2 : k1 = k2 := g1
  have q3 : v1 = v2 := Sum.inl.inj g3.1
  rw [q1, q2, q3]
theorem sortE_perm (E : List Ent) : (sortE E).Perm E := List.mergeSort_perm _ _
theorem sortE_sorted (E : List Ent) : (sortE E).Pairwise fun a b => leE a b = true := PySem.W.sort_pairwise total_E E
/-- two rising rows with the same, each once, are one -/
theorem one_row {l m : List Ent} (h1 : l.Pairwise fun a b => leE a b = true) (h2 : m.Pairwise fun a b => leE a b = true) (n1 : l.Nodup) (n2 : m.Nodup) (e : ∀ x, x ∈ l ↔ x ∈ m) : l = m := by
  have p : l.Perm m := (List.perm_ext_iff_of_nodup n1 n2).mpr e
  exact p.eq_of_pairwise (fun a b _ _ x y => anti_E a b x y) h1 h2
theorem earliest_sort (E : List Ent) : earliest [] (sortE E) = sortE (firsts E) := by
  refine one_row ((sortE_sorted E).sublist (sub_earliest _ _)) (sortE_sorted _) (nodup_earliest _ _) ((sortE_perm _).nodup_iff.mpr (nodup_firsts E)) fun x => ?_
  rw [mem_earliest, (sortE_perm E).mem_iff, (sortE_perm (firsts E)).mem_iff, mem_firsts]
  simp
theorem sortD_ent (E : List Ent) : sortD (E.map entD) = (sortE E).map entD := (PySem.W.sort_maps (r := leE) (s := LeD) entD fun _ _ _ _ => rfl).symm
theorem alike_E (E : List Ent) : PySem.W.AllAlike ((E.map entD).map dpy) := by
  rw [List.map_map]
  refine PySem.W.AllAlike.of fun a b => ?_
  have h : PySem.W.alike (dpy (entD a)) (dpy (entD b)) = (true && (PySem.W.alikeAll (dpyAll (a.ks.map D.int)) (dpyAll (b.ks.map D.int)) && (true && true))) := rfl
  show PySem.W.alike (dpy (entD a)) (dpy (entD b)) = true
  rw [h, dpyAll_map, dpyAll_map, List.map_map, List.map_map]
  have := PySem.W.alike_ints a.ks b.ks
  have e : (dpy ∘ D.int) = PyData.int := rfl
  rw [e, this]; rfl
theorem sortable_E (E : List Ent) : PySem.W.Sortable ((E.map entD).map dpy) := by
  rw [List.map_map]
  exact PySem.W.Sortable.tuples fun b => ⟨_, _, rfl⟩
theorem depth_E (e : Ent) : (dpy (entD e)).depth ≤ 2 := by
  have h : (dpy (entD e)).depth = max 0 (max (PyData.depthAll (dpyAll (e.ks.map D.int)) + 1) (max 0 0)) + 1 := rfl
  have h2 : PyData.depthAll (dpyAll (e.ks.map D.int)) = 0 := by
    rw [dpyAll_map, List.map_map]
    exact PySem.W.depth_ints e.ks
  rw [h, h2]; decide
theorem fit_ents {E : List Ent} (h : ∀ e ∈ E, okE e) : fit (.lst (E.map entD)) = true := (fit_list fun d hd => by
  obtain ⟨e, he, rfl⟩ := List.mem_map.mp hd
  exact ⟨(h e he).1, Nat.le_trans (depth_E e) (by decide)⟩).1
theorem plain_ents (E : List Ent) : plainAll (E.map entD) = true := by
  have hInts : ∀ ks : List Int, plainAll (ks.map D.int) = true := fun ks => by
    induction ks with
    | nil => rfl
    | cons k ks ih => show (true && plainAll (ks.map D.int)) = true; rw [ih]; rfl
  induction E with
  | nil => rfl
  | cons e E ih =>
    have h : plainAll ((e :: E).map entD) = ((true && (plainAll (e.ks.map D.int) && (true && true))) && plainAll (E.map entD)) := rfl
    rw [h, hInts, ih]; rfl
theorem inD_ent (e : Ent) (E : List Ent) : inD (entD e) (E.map entD) = decide (e ∈ E) := by
  unfold inD
  rw [List.any_map]
  by_cases h : e ∈ E
  · rw [decide_eq_true h]
    exact List.any_eq_true.mpr ⟨e, h, by show eqD (entD e) (entD e) = true; rw [eq_ent]; simp⟩
  · rw [decide_eq_false h]
    refine List.any_eq_false.mpr fun x hx => ?_
    show ¬ eqD (entD x) (entD e) = true
    rw [eq_ent]
    simp only [decide_eq_true_eq]
    exact fun q => h (q ▸ hx)
theorem count_ent (e : Ent) (E : List Ent) : (E.map entD).countP (fun z => eqD z (entD e)) = E.count e := by
  rw [List.countP_map]
  unfold List.count
  refine List.countP_congr fun x _ => ?_
  show eqD (entD x) (entD e) = true ↔ (x == e) = true
  rw [eq_ent]; simp
/-! ### the dict of numbers -/
theorem nk_ints : ∀ (a b : List Int), nkAll (a.map D.int) = nkAll (b.map D.int) → a = b
  | [], [], _ => rfl
  | [], _ :: _, h => by cases h
  | _ :: _, [], h => by cases h
  | x :: a, y :: b, h => by
    have h' : NestedKey.num x :: nkAll (a.map D.int) = NestedKey.num y :: nkAll (b.map D.int) := h
    obtain ⟨h1, h2⟩ := List.cons.inj h'
    rw [NestedKey.num.inj h1, nk_ints a b h2]
theorem nk_ent (a b : Ent) : nk (entD a) = nk (entD b) ↔ a = b := by
  constructor
  · intro h
    have h' : NestedKey.tup [.text a.nm, .tup (nkAll (a.ks.map D.int)), .num a.v] = NestedKey.tup [.text b.nm, .tup (nkAll (b.ks.map D.int)), .num b.v] := h
    have h1 := NestedKey.tup.inj h'
    have h2 := List.cons.inj h1
    have h3 := List.cons.inj h2.2
    have h4 := List.cons.inj h3.2
    obtain ⟨n1, k1, v1⟩ := a
    obtain ⟨n2, k2, v2⟩ := b
    have q1 : n1 = n2 := NestedKey.text.inj h2.1
    have q2 : k1 = k2 := nk_ints _ _ (NestedKey.tup.inj h3.1)
    have q3 : v1 = v2 := NestedKey.num.inj h4.1
    rw [q1, q2, q3]
  · intro h; rw [h]
def kvOf (E : List Ent) : List (D × D) := (firsts E).map fun e => (entD e, D.int (E.count e : Nat))
theorem look_map (f : Ent → D) (x : Ent) : ∀ (l : List Ent), lookD (l.map fun e => (entD e, f e)) (entD x) = if x ∈ l then some (f x) else none
  | [] => rfl
  | y :: l => by
    have ih := look_map f x l
    unfold lookD at ih ⊢
    rw [List.map_cons]
    by_cases h : y = x
    · subst h
      rw [List.find?_cons_of_pos (by simp), if_pos List.mem_cons_self]; rfl
    · rw [List.find?_cons_of_neg (by simpa [nk_ent] using h), ih]
      have : (x ∈ y :: l) ↔ x ∈ l := by
        rw [List.mem_cons]
        exact ⟨fun q => q.resolve_left fun e => h e.symm, .inr⟩
      by_cases q : x ∈ l
      · rw [if_pos q, if_pos (this.mpr q)]
      · rw [if_neg q, if_neg fun z => q (this.mp z)]
theorem look_kv (E : List Ent) (x : Ent) : lookD (kvOf E) (entD x) = if x ∈ E then some (.int (E.count x : Nat)) else none := by
  unfold kvOf
  rw [look_map (fun e => D.int (E.count e : Nat))]
  by_cases h : x ∈ E
  · rw [if_pos h, if_pos ((mem_firsts E x).mpr h)]
  · rw [if_neg h, if_neg fun q => h ((mem_firsts E x).mp q)]
theorem get_kv (E : List Ent) (x : Ent) : (lookD (kvOf E) (entD x)).getD (.int 0) = .int (E.count x : Nat) := by
  rw [look_kv]
  by_cases h : x ∈ E
  · rw [if_pos h]; rfl
  · rw [if_neg h, List.count_eq_zero_of_not_mem h]; rfl
theorem put_kv (E : List Ent) (x : Ent) : putD (kvOf E) (entD x) (.int ((E.count x : Nat) + 1)) = kvOf (E ++ [x]) := by
  unfold putD
  rw [look_kv]
  have cnt : ∀ e : Ent, (E ++ [x]).count e = E.count e + if x = e then 1 else 0 := fun e => by
    rw [List.count_append, List.count_singleton]
    by_cases h : x = e <;> simp [h]
  by_cases h : x ∈ E
  · rw [if_pos h]
    show List.map _ (kvOf E) = _
    unfold kvOf
    rw [firsts_snoc, if_pos ((mem_firsts E x).mpr h), List.map_map]
    refine List.map_congr_left fun e _ => ?_
    show (if nk (entD e) = nk (entD x) then (entD e, D.int ((E.count x : Nat) + 1)) else (entD e, D.int (E.count e : Nat))) = (entD e, D.int ((E ++ [x]).count e : Nat))
    rw [cnt]
    by_cases q : e = x
    · subst q
      rw [if_pos rfl, if_pos rfl]; rfl
    · rw [if_neg fun z => q ((nk_ent _ _).mp z), if_neg fun z => q z.symm]; rfl
  · rw [if_neg h]
    show kvOf E ++ [(entD x, D.int ((E.count x : Nat) + 1))] = _
    unfold kvOf
    rw [firsts_snoc, if_neg fun q => h ((mem_firsts E x).mp q), List.map_append]
    congr 1
    · refine List.map_congr_left fun e he => ?_
      rw [cnt, if_neg fun z => h (by rw [z]; exact (mem_firsts E e).mp he)]; rfl
    · show [(entD x, D.int ((E.count x : Nat) + 1))] = [(entD x, D.int ((E ++ [x]).count x : Nat))]
      rw [cnt, if_pos rfl]; rfl
theorem kv_keys (E : List Ent) : (kvOf E).map (·.1) = (firsts E).map entD := by
  unfold kvOf
  rw [List.map_map]; rfl
theorem plain_ints : ∀ ks : List Int, plainAll (ks.map D.int) = true
  | [] => rfl
  | k :: ks => by show (true && plainAll (ks.map D.int)) = true; rw [plain_ints ks]; rfl
theorem can_ints : ∀ ks : List Int, PyData.canLayAll0 (dpyAll (ks.map D.int)) = true
  | [] => rfl
  | k :: ks => by show (true && PyData.canLayAll0 (dpyAll (ks.map D.int))) = true; rw [can_ints ks]; rfl
theorem key_ints : ∀ ks : List Int, nkOkAll (ks.map D.int) = true
  | [] => rfl
  | k :: ks => by show (true && nkOkAll (ks.map D.int)) = true; rw [key_ints ks]; rfl
theorem dep_ints : ∀ ks : List Int, PyData.depthAll (dpyAll (ks.map D.int)) = 0
  | [] => rfl
  | k :: ks => by show max 0 (PyData.depthAll (dpyAll (ks.map D.int))) = 0; rw [dep_ints ks]; rfl
theorem ndep_ints : ∀ ks : List Int, NestedKey.depthAll (nkAll (ks.map D.int)) = 0
  | [] => rfl
  | k :: ks => by show max 0 (NestedKey.depthAll (nkAll (ks.map D.int))) = 0; rw [ndep_ints ks]; rfl
theorem fit_ints (ks : List Int) : fit (.tup (ks.map D.int)) = true := by
  have h : fit (.tup (ks.map D.int)) = (plainAll (ks.map D.int) && (PyData.canLayAll0 (dpyAll (ks.map D.int)) && decide (PyData.depthAll (dpyAll (ks.map D.int)) + 1 ≤ 64))) := rfl
  rw [h, plain_ints, can_ints, dep_ints]; rfl
theorem ok_of {nm : Str} (hn : fit (.str nm) = true) (ks : List Int) (v : Int) : okE ⟨nm, ks, v⟩ := by
  refine ⟨(fit_list (ds := [.str nm, .tup (ks.map .int), .int v]) fun d hd => ?_).2, ?_⟩
  · rcases List.mem_cons.mp hd with e | hd
    · subst e; exact ⟨hn, Nat.zero_le _⟩
    · rcases List.mem_cons.mp hd with e | hd
      · subst e
        refine ⟨fit_ints ks, ?_⟩
        show PyData.depthAll (dpyAll (ks.map D.int)) + 1 ≤ 60
        rw [dep_ints]; decide
      · rcases List.mem_cons.mp hd with e | hd
        · subst e; exact ⟨rfl, Nat.zero_le _⟩
        · cases hd
  · have h : keyD (entD ⟨nm, ks, v⟩) = ((true && (nkOkAll (ks.map D.int) && (true && true))) && decide (max 0 (max (NestedKey.depthAll (nkAll (ks.map D.int)) + 1) (max 0 0)) + 1 ≤ 8)) := rfl
    rw [h, key_ints, ndep_ints]; rfl
end Toy
namespace L3
open PySem L2
def forget : SD → SD
  | .val d => .val d
  | _ => .un
theorem Slots.forget {pr : Program} {wd : World} {K : PySem.W.Frag} {O : List Addr} {H : Hp} : ∀ {σ : List (Option V)} {ρ : List SD} {L : List Addr}, Slots pr wd K O H σ ρ L → Slots pr wd K O H σ (ρ.map L3.forget) []
  | _, _, _, .nil => .nil
  | _, _, _, .un s => .un s.forget
  | _, _, _, .val h s => .val h s.forget
  | _, _, _, .own _ _ s => .un s.forget
  | _, _, _, .dic _ s => .un s.forget
  | _, _, _, .dk _ s => .un s.forget
  | _, _, _, .tw _ s => .un s.forget
section
variable {P : Program} {w : World} {K : PySem.W.Frag} {O : List Addr} {bag : Option (Addr × Addr)} {p C dx : Addr} {ρ : List SD} {n : Nat} {ks : List (Str × D)} {Φ : Nat → List (Str × D) → Prop} {ts us vs : TS}
/-- statements ahead of the stores; what they own is forgotten -/
theorem wn_preF (h : ∀ H0, WS ⟨P, w, K, p :: O, bag, H0⟩ ts ρ n { nx := fun n1 ρ1 => WN P w K O bag p C dx us (ρ1.map forget) n1 ks Φ, rt := fun _ _ => False }) : WN P w K O bag p C dx (tSeq ts us) ρ n ks Φ := fun H σ fs Dn hp pO hf E q => by
  refine h H (fun _ => none) [] σ H { Dn with nx := us Dn } E { nx := fun L n1 H1 σ1 ρ1 E1 hn => ?_, rt := fun _ _ _ _ _ _ _ h => h.elim, bk := fun _ _ _ _ _ _ h => h.elim, ct := fun _ _ _ _ _ _ h => h.elim }
  have pB : p ∉ bagB bag := fun z => by
    obtain ⟨q, hq⟩ := (mem_B (c := ⟨P, w, K, p :: O, bag, H⟩)).mp z
    obtain ⟨xs, hx⟩ := (E.bag p q hq).lst
    rw [hp] at hx; cases hx
  have hp1 : H1 p = some (.ins C dx fs) := (hid_some.mp (E1.base p _ (hid_some.mpr ⟨pB, hp⟩))).2
  have bO : ∀ a, a ∈ bagB bag → a ∈ p :: O := fun a ha => E.inO (show a ∈ (⟨P, w, K, p :: O, bag, H⟩ : Ctx).B from ha)
  have s0 : Same (hid (p :: O) H) (hid (p :: O) H1) := same_hid_more bO E1.base
  obtain ⟨Ls, sl, sb⟩ := E1.slots
  refine hn H1 σ1 fs Dn hp1 pO (hf.mono s0) ?_ fun σ' fs' ks' n' H' s' b' hp' hf' kk' => q σ' fs' ks' n' H' ((same_hid_more (fun a ha => List.mem_cons_of_mem _ ha) E1.base).trans s') b' hp' hf' kk'
  exact { nd := List.nodup_nil, fresh := (fun l hl => nomatch hl), slots := ⟨[], sl.forget.move (fun l hl => nomatch hl) (same_hid_sub fun a ha => List.mem_append_right _ ha), List.Sublist.refl _⟩, lst := (fun l hl => nomatch hl), bag := E1.bag, base := Same.refl _,
          pers := (fun _ _ e => nomatch e), bO := E1.bO, al := E1.al }
theorem wn_assoc (h : WN P w K O bag p C dx (tSeq (tSeq ts us) vs) ρ n ks Φ) : WN P w K O bag p C dx (tSeq ts (tSeq us vs)) ρ n ks Φ := h
end
end L3
namespace Toy
open PySem L2 L3
local macro_rules | `(tactic| walk_at "we1") => `(tactic| first
  | ((with_reducible refine' we_var ?hv ?_); (case hv => rfl))
  | (with_reducible refine we_int ?_)
  | (with_reducible refine we_str ?_)
  | (with_reducible refine we_bl ?_)
  | (with_reducible refine we_non ?_)
  | ((with_reducible refine' we_dix ?hv ?_); (case hv => rfl))
  | (with_reducible refine we_op ?_)
  | ((with_reducible refine' we_dget ?hv ?_); (case hv => rfl))
  | (with_reducible refine we_count ?_)
  | (with_reducible refine we_cb ?_)
  | (with_reducible refine we_call0 ?_)
  | (with_reducible refine we_tup ?_)
  | (with_reducible refine we_lst ?_)
  | (with_reducible refine we_if ?_)
  | (with_reducible refine we_not ?_)
  | (with_reducible refine we_and ?_)
  | (with_reducible refine we_or ?_)
  | (with_reducible refine we_isN ?_)
  | (with_reducible refine we_notN ?_)
  | (with_reducible refine we_sl ?_)
  | (with_reducible refine wa_cons ?_)
  | (with_reducible refine wa_nil ?_)
  | (with_reducible refine wt_test ?_)
  | (with_reducible refine wt_B ?_)
  | (with_reducible refine wt_and ?_)
  | (with_reducible refine wt_or ?_)
  | (with_reducible refine wt_not ?_)
  | (with_reducible refine wt_yes ?_)
  | (with_reducible refine wo_none ?_)
  | (with_reducible refine wo_some ?_)
  | ((with_reducible refine' r2_ix ?hx ?_); (case hx => rfl))
  | (with_reducible refine r2_isN ?_)
  | (with_reducible refine r2_notN ?_)
  | (with_reducible refine r2_lt ?_)
  | (with_reducible refine r2_le ?_)
  | (with_reducible refine r2_gt ?_)
  | (with_reducible refine r2_ge ?_)
  | (with_reducible refine r2_sub ?_)
  | (with_reducible refine r2_addI ?_)
  | (with_reducible refine r2_eqI ?_)
  | (with_reducible refine r2_neI ?_)
  | (with_reducible refine rc_int ?_)
  | (with_reducible refine rc_abs ?_)
  | ((with_reducible refine' rc_len ?hl ?_); (case hl => rfl))
  | (with_reducible refine wi_seq ?_)
  | (with_reducible refine wi_rng1 ?_)
  | (with_reducible refine wi_rng2 ?_)
  | (with_reducible refine wi_enum ?_)
  | (refine ⟨_, rfl, ?_⟩))
local macro_rules | `(tactic| walk_at "ws1") => `(tactic| first
  | (with_reducible refine ws_seq ?_)
  | (with_reducible refine ws_set ?_)
  | (with_reducible refine ws_ret ?_)
  | (with_reducible refine ws_if ?_)
  | (with_reducible refine ws_next ?_)
  | (with_reducible refine ws_asg ?_))
local macro_rules | `(tactic| walk_at "wg1") => `(tactic| first
  | (with_reducible refine wg_name (rw_name (by decide)) ?_)
  | (with_reducible refine wg_name (fun _ _ => trivial) ?_)
  | ((with_reducible refine' wg_tup ?hl ?_); (case hl => rfl))
  | (with_reducible refine wgs_cons rw_trans ?_)
  | (with_reducible refine wgs_nil rw_refl ?_)
  | (with_reducible refine wgs_cons (fun _ _ _ _ _ => trivial) ?_)
  | (with_reducible refine wgs_nil (fun _ => trivial) ?_))
local macro_rules | `(tactic| walk_at "go") => `(tactic| repeat' (first | walk_at "we1" | walk_at "wg1"))
section
variable {P : Program} {w : World} {K : PySem.W.Frag} {mg : Str → Option Value} {base : Heap}
/-! an order -/
def goodEvs (es : List Toy.Ev) : Prop := es.length ≤ 12 ∧ ∀ i e, es[i]? = some e → goodEv ((es.take i).map Toy.Ev.nm) e
def ordF (CE : Addr) (es : List Toy.Ev) : List (Str × D) := [("events", .tup (es.map (evD CE)))]
abbrev ordD (C CE : Addr) (es : List Toy.Ev) : D := .obj C (ordF CE es)
structure OrT (K : PySem.W.Frag) (C : Addr) : Prop where
  cl : Cls K C
  n1 : NoAttr K C "events"
def spOrder (CE : Addr) : SpecI := fun bag n ds Φ => ∃ (es : List Toy.Ev), ds = [.lst (es.map (evD CE))] ∧ goodEvs es ∧ Φ n (ordF CE es)
structure Txt4 (mg : Str → Option Value) (tM : Tok) : Prop where
  b : Txt mg
  c_MOST_EVENTS : mg "MOST_EVENTS" = some (.int 12 tM)
abbrev s_Order___init : Stmt := inClass (top 16) 0
abbrev N_Order___init : List Str := ["self", "events", "elder", "event", "fault"]
theorem sc_Order___init : FnScope N_Order___init ["self", "events"] (defScope s_Order___init) := ⟨rfl, rfl, rfl, by decide +kernel, rfl, by decide +kernel, by decide +kernel⟩

theorem ok_order {f C CE : Addr} {fd : FuncData} {tM : Tok} (F : Fun K "__init__" "Order.__init__" s_Order___init f fd) (T4 : Txt4 mg tM) (TO : OrT K C) (TE : EvT K CE) (D_event_fault : Dn P w K mg base "event_fault" 2 ["event", "elder"] [] [] (spFault CE)) : FnOk P w K mg base CX0 3 f fd ["self", "events"] (spI K C (spOrder CE)) := by
  refine fn_I F sc_Order___init (fun bag n ds Φ h => ?_) (fun cdv A outer s H E O bag n ds Φ p dx hr h => ?_)
  · obtain ⟨e, he, _⟩ := h
    rw [he]; rfl
  · obtain ⟨es, he, ⟨h12, hg⟩, kk⟩ := h
    subst he
    have T := T4.b
    refine ⟨_, (pss_cons (ps_set (i := 1) sc_Order___init.nd rfl (Or.inl rfl) (pe_callTy (x_tup K) (by rfl) T.b_tuple (by decide +kernel) (pa_cons (pv 1) pa_nil)))
  (pss_cons (ps_if (pt_cmpR op_gt (pe_callB (x_len K) (by rfl) T.b_len (by decide +kernel) (pa_cons (pv 1) pa_nil)) (pe_glob (v := (.int _)) (by rfl) T4.c_MOST_EVENTS ⟨_, rfl⟩) (nomark _)) (pss_one L3.ps_never) pss_nil)
  (pss_cons (ps_set (i := 2) sc_Order___init.nd rfl (Or.inl rfl) (pe_lst pa_nil))
  (pss_cons (ps_for PassesOwn.never rfl (x_seq K (pv 1)) (pg_name (i := 3) sc_Order___init.nd rfl (Or.inl rfl)) (pss_cons (ps_set (i := 4) sc_Order___init.nd rfl (Or.inl rfl) (pe_call D_event_fault.G (hr.mono (by decide)) (by rfl) D_event_fault.m D_event_fault.k D_event_fault.b D_event_fault.v pass0 (pa_cons (pv 3) (pa_cons (pv 2) pa_nil))))
  (pss_cons (ps_if (pt_cmpR op_notN1 (pv 4) pe_non (nomark _)) (pss_one L3.ps_never) pss_nil)
  (pss_one (ps_expr (pe_bm PySem.F.plainAttrs_list PySem.F.slot_list_append PySem.F.type_list_append mt_append (pv 2) (pa_cons (x_fld K (pe_fld (pv 3) rfl)) pa_nil)))))))
  (pss_one (x_sfld K (ps_fld (pv 0) (pv 1) rfl))))))), ?_⟩
    show WN _ _ _ _ _ _ _ _ _ [.val (.adr p), .val (.lst (es.map (evD CE))), .un, .un, .un] n [] _
    refine wn_assoc (wn_assoc (wn_assoc (wn_preF fun H0 => ?_)))
    walk_at "ws1"
    walk_at "ws1"
    walk_at "ws1"
    walk_at "ws1"
    walk_at "go"
    refine rc_tup rfl ?_
    walk_at "ws1"
    walk_at "go"
    refine decF (by rw [List.length_map]; omega) ?_
    walk_at "ws1"
    refine ws_own (i := 2) (Nat.le_of_ble_eq_true rfl) (wf_lst (wa_nil ⟨Nat.zero_le _, ?_⟩))
    refine ws_for ?_
    walk_at "we1"
    walk_at "we1"
    refine ⟨_, rfl, fun i m ρ => m = n ∧ ∃ x3 x4, ρ = [.val (.adr p), .val (.tup (es.map (evD CE))), .own (((es.take i).map Toy.Ev.nm).map .str), x3, x4], ⟨rfl, _, _, rfl⟩, ?_, ?_⟩
    · rintro i m ρ1 d hd ⟨rfl, x3, x4, rfl⟩
      obtain ⟨e, hee, rfl, hm, tk⟩ := map_at hd
      have ge := hg i e hee
      have hl : ((es.take i).map Toy.Ev.nm).length ≤ 12 := by rw [List.length_map, List.length_take]; omega
      have hf : ∀ x ∈ (es.take i).map Toy.Ev.nm, fit (.str x) = true := fun x hx => by
        obtain ⟨e', he', rfl⟩ := List.mem_map.mp hx
        obtain ⟨j, hj⟩ := List.getElem?_of_mem (List.mem_of_mem_take he')
        exact (hg j e' hj).2.2.2.2.2.2.2.2.1
      walk_at "wg1"
      walk_at "ws1"
      refine ws_set (we_look 2 rfl ?_)
      walk_at "go"
      refine ⟨e, _, rfl, ge, by omega, hf, rfl, ?_⟩
      walk_at "ws1"
      walk_at "ws1"
      walk_at "go"
      refine itF rfl ?_
      walk_at "ws1"
      refine ws_append (i := 2) (ds := ((es.take i).map Toy.Ev.nm).map .str) rfl ?_
      refine we_fld TE.cl TE.n1 ?_
      walk_at "go"
      refine ⟨by rw [List.length_map, sizeLine_eq]; omega, rfl, .val (evD CE e), .val .non, ?_⟩
      rw [tk, List.map_append, List.map_append]; rfl
    · rintro m ρ1 ⟨rfl, x3, x4, rfl⟩
      refine wn_st TO.cl TO.n1 (by decide) rfl fun H0 => ?_
      walk_at "go"
      exact kk
end
end Toy
namespace Toy
open PySem L2 L3
local macro_rules | `(tactic| walk_at "we1") => `(tactic| first
  | ((with_reducible refine' we_var ?hv ?_); (case hv => rfl))
  | (with_reducible refine we_int ?_)
  | (with_reducible refine we_str ?_)
  | (with_reducible refine we_bl ?_)
  | (with_reducible refine we_non ?_)
  | ((with_reducible refine' we_dix ?hv ?_); (case hv => rfl))
  | (with_reducible refine we_op ?_)
  | ((with_reducible refine' we_dget ?hv ?_); (case hv => rfl))
  | (with_reducible refine we_count ?_)
  | (with_reducible refine we_cb ?_)
  | (with_reducible refine we_call0 ?_)
  | (with_reducible refine we_tup ?_)
  | (with_reducible refine we_lst ?_)
  | (with_reducible refine we_if ?_)
  | (with_reducible refine we_not ?_)
  | (with_reducible refine we_and ?_)
  | (with_reducible refine we_or ?_)
  | (with_reducible refine we_isN ?_)
  | (with_reducible refine we_notN ?_)
  | (with_reducible refine we_sl ?_)
  | (with_reducible refine wa_cons ?_)
  | (with_reducible refine wa_nil ?_)
  | (with_reducible refine wt_test ?_)
  | (with_reducible refine wt_B ?_)
  | (with_reducible refine wt_and ?_)
  | (with_reducible refine wt_or ?_)
  | (with_reducible refine wt_not ?_)
  | (with_reducible refine wt_yes ?_)
  | (with_reducible refine wo_none ?_)
  | (with_reducible refine wo_some ?_)
  | ((with_reducible refine' r2_ix ?hx ?_); (case hx => rfl))
  | (with_reducible refine r2_isN ?_)
  | (with_reducible refine r2_notN ?_)
  | (with_reducible refine r2_lt ?_)
  | (with_reducible refine r2_le ?_)
  | (with_reducible refine r2_gt ?_)
  | (with_reducible refine r2_ge ?_)
  | (with_reducible refine r2_sub ?_)
  | (with_reducible refine r2_addI ?_)
  | (with_reducible refine r2_eqI ?_)
  | (with_reducible refine r2_neI ?_)
  | (with_reducible refine rc_int ?_)
  | (with_reducible refine rc_abs ?_)
  | ((with_reducible refine' rc_len ?hl ?_); (case hl => rfl))
  | (with_reducible refine wi_seq ?_)
  | (with_reducible refine wi_rng1 ?_)
  | (with_reducible refine wi_rng2 ?_)
  | (with_reducible refine wi_enum ?_)
  | (refine ⟨_, rfl, ?_⟩))
local macro_rules | `(tactic| walk_at "ws1") => `(tactic| first
  | (with_reducible refine ws_seq ?_)
  | (with_reducible refine ws_set ?_)
  | (with_reducible refine ws_ret ?_)
  | (with_reducible refine ws_if ?_)
  | (with_reducible refine ws_next ?_)
  | (with_reducible refine ws_asg ?_))
local macro_rules | `(tactic| walk_at "wg1") => `(tactic| first
  | (with_reducible refine wg_name (rw_name (by decide)) ?_)
  | (with_reducible refine wg_name (fun _ _ => trivial) ?_)
  | ((with_reducible refine' wg_tup ?hl ?_); (case hl => rfl))
  | (with_reducible refine wgs_cons rw_trans ?_)
  | (with_reducible refine wgs_nil rw_refl ?_)
  | (with_reducible refine wgs_cons (fun _ _ _ _ _ => trivial) ?_)
  | (with_reducible refine wgs_nil (fun _ => trivial) ?_))
local macro_rules | `(tactic| walk_at "go") => `(tactic| repeat' (first | walk_at "we1" | walk_at "wg1"))
section
variable {P : Program} {w : World} {K : PySem.W.Frag} {mg : Str → Option Value} {base : Heap}
/-! the law's events and the order of them -/
abbrev evT (e : Toy.Ev) : D := .tup [.str e.nm, .int e.at_, .str e.kind, .tup (e.needs.map .str)]
def evOf (C : Addr) : D → D
  | .tup [a, b, c, d] => .obj C [("name", a), ("end", b), ("kind", c), ("needs", d)]
  | _ => .non
def spOrderOf (CO CE : Addr) : L3.Spec := fun bag n ds Φ => ∃ (es : List Toy.Ev), ds = [.lst (es.map evT)] ∧ goodEvs es ∧ Φ n (ordD CO CE es)
abbrev s_law_made : Stmt := top 36
abbrev N_law_made : List Str := ["events", "name", "end", "kind", "needs"]
theorem sc_law_made : FnScope N_law_made ["events"] (defScope s_law_made) := ⟨rfl, rfl, rfl, by decide +kernel, rfl, by decide +kernel, by decide +kernel⟩

theorem ok_order_of {f : Addr} {fd : FuncData} {dv : List V} {dw : List Value} (F : Fun K "_law_made" "_law_made" s_law_made f fd) (T : Txt mg) (M_Event : Mn P w K mg base "Event" 1 ["self", "name", "end", "kind", "needs"] [] [] spEv) (M_Order : Mn P w K mg base "Order" 3 ["self", "events"] [] [] (spOrder M_Event.C)) : FnOk P w K mg base CX0 5 f fd ["events"] (spD K (spOrderOf M_Order.C M_Event.C)) := by
  refine fn_D F sc_law_made (fun bag n ds Φ h => ?_) (fun cdv A outer s H Ex O bag n ds Φ hr h => ?_)
  · obtain ⟨es, e, _⟩ := h
    rw [e]; rfl
  · obtain ⟨es, e, hg, kk⟩ := h
    subst e
    refine ⟨_, (pss_one (ps_ret (pe_make M_Order.M M_Order.G (hr.mono (by decide)) (by rfl) M_Order.m M_Order.b M_Order.v pass0 (pa_cons (pe_lc (own := [("name", 1), ("end", 2), ("kind", 3), ("needs", 4)]) (g := gTup K 4 (gCons (gName 1) (gCons (gName 2) (gCons (gName 3) (gCons (gName 4) gNil))))) (tt := tYes) rfl sc_law_made.nd (x_seq K (pv 0)) (blkOk_by (own := [("name", 1), ("end", 2), ("kind", 3), ("needs", 4)]) (N := N_law_made) (sc := defScope s_law_made) (by decide +kernel)) (fun _ _ _ _ _ => (x_tgt K (pg_tup (by rfl) (pgs_cons (pg_name (i := 1) sc_law_made.nd rfl (Or.inl rfl)) (pgs_cons (pg_name (i := 2) sc_law_made.nd rfl (Or.inl rfl)) (pgs_cons (pg_name (i := 3) sc_law_made.nd rfl (Or.inl rfl)) (pgs_cons (pg_name (i := 4) sc_law_made.nd rfl (Or.inl rfl)) pgs_nil))))))) (fun _ _ _ _ _ => pts_nil) (fun _ _ _ _ _ => (pe_make M_Event.M M_Event.G (hr.mono (by decide)) (by rfl) M_Event.m M_Event.b M_Event.v pass0 (pa_cons (pv 1) (pa_cons (pv 2) (pa_cons (pv 3) (pa_cons (pv 4) pa_nil))))))) pa_nil)))), ?_⟩
    show WS _ _ [.val (.lst (es.map evT)), .un, .un, .un, .un] n _
    walk_at "ws1"
    refine we_make (dds := []) (fun _ => .nil) ?_
    refine wa_cons (wf_we (wf_map (evOf M_Event.C) (fun _ => true) ?_))
    walk_at "we1"
    walk_at "we1"
    have h12 := hg.1
    refine ⟨_, rfl, by rw [List.length_map]; omega, fun d hd m => ?_, ?_⟩
    · obtain ⟨e, _, rfl⟩ := List.mem_map.mp hd
      walk_at "go"
      refine ⟨rfl, rfl, fun _ => ?_⟩
      refine we_make (dds := []) (fun _ => .nil) ?_
      walk_at "go"
      exact ⟨rfl, rfl⟩
    rw [filt_all, List.map_map]
    refine wa_nil ⟨es, rfl, hg, kk⟩
end
end Toy
namespace Toy
open PySem L2 L3
local macro_rules | `(tactic| walk_at "we1") => `(tactic| first
  | ((with_reducible refine' we_var ?hv ?_); (case hv => rfl))
  | (with_reducible refine we_int ?_)
  | (with_reducible refine we_str ?_)
  | (with_reducible refine we_bl ?_)
  | (with_reducible refine we_non ?_)
  | ((with_reducible refine' we_dix ?hv ?_); (case hv => rfl))
  | (with_reducible refine we_op ?_)
  | ((with_reducible refine' we_dget ?hv ?_); (case hv => rfl))
  | (with_reducible refine we_count ?_)
  | (with_reducible refine we_cb ?_)
  | (with_reducible refine we_call0 ?_)
  | (with_reducible refine we_tup ?_)
  | (with_reducible refine we_lst ?_)
  | (with_reducible refine we_if ?_)
  | (with_reducible refine we_not ?_)
  | (with_reducible refine we_and ?_)
  | (with_reducible refine we_or ?_)
  | (with_reducible refine we_isN ?_)
  | (with_reducible refine we_notN ?_)
  | (with_reducible refine we_sl ?_)
  | (with_reducible refine wa_cons ?_)
  | (with_reducible refine wa_nil ?_)
  | (with_reducible refine wt_test ?_)
  | (with_reducible refine wt_B ?_)
  | (with_reducible refine wt_and ?_)
  | (with_reducible refine wt_or ?_)
  | (with_reducible refine wt_not ?_)
  | (with_reducible refine wt_yes ?_)
  | (with_reducible refine wo_none ?_)
  | (with_reducible refine wo_some ?_)
  | ((with_reducible refine' r2_ix ?hx ?_); (case hx => rfl))
  | (with_reducible refine r2_isN ?_)
  | (with_reducible refine r2_notN ?_)
  | (with_reducible refine r2_lt ?_)
  | (with_reducible refine r2_le ?_)
  | (with_reducible refine r2_gt ?_)
  | (with_reducible refine r2_ge ?_)
  | (with_reducible refine r2_sub ?_)
  | (with_reducible refine r2_addI ?_)
  | (with_reducible refine r2_eqI ?_)
  | (with_reducible refine r2_neI ?_)
  | (with_reducible refine rc_int ?_)
  | (with_reducible refine rc_abs ?_)
  | ((with_reducible refine' rc_len ?hl ?_); (case hl => rfl))
  | (with_reducible refine wi_seq ?_)
  | (with_reducible refine wi_rng1 ?_)
  | (with_reducible refine wi_rng2 ?_)
  | (with_reducible refine wi_enum ?_)
  | (refine ⟨_, rfl, ?_⟩))
local macro_rules | `(tactic| walk_at "ws1") => `(tactic| first
  | (with_reducible refine ws_seq ?_)
  | (with_reducible refine ws_set ?_)
  | (with_reducible refine ws_ret ?_)
  | (with_reducible refine ws_if ?_)
  | (with_reducible refine ws_next ?_)
  | (with_reducible refine ws_asg ?_))
local macro_rules | `(tactic| walk_at "wg1") => `(tactic| first
  | (with_reducible refine wg_name (rw_name (by decide)) ?_)
  | (with_reducible refine wg_name (fun _ _ => trivial) ?_)
  | ((with_reducible refine' wg_tup ?hl ?_); (case hl => rfl))
  | (with_reducible refine wgs_cons rw_trans ?_)
  | (with_reducible refine wgs_nil rw_refl ?_)
  | (with_reducible refine wgs_cons (fun _ _ _ _ _ => trivial) ?_)
  | (with_reducible refine wgs_nil (fun _ => trivial) ?_))
local macro_rules | `(tactic| walk_at "go") => `(tactic| repeat' (first | walk_at "we1" | walk_at "wg1"))
section
variable {P : Program} {w : World} {K : PySem.W.Frag} {mg : Str → Option Value} {base : Heap}
def isE (nm : Str) (ks : List Int) (e : Ent) : Bool := decide (e.nm = nm) && decide (e.ks = ks)
def findE (E : List Ent) (nm : Str) (ks : List Int) : D := match E.find? (isE nm ks) with | some e => .int e.v | none => .non
def optD : Option Int → D
  | none => .non
  | some v => .int v
def findO (E : List Ent) (nm : Str) (ks : List Int) : Option Int := (E.find? (isE nm ks)).map (·.v)
theorem findE_O (E : List Ent) (nm : Str) (ks : List Int) : findE E nm ks = optD (findO E nm ks) := by
  unfold findE findO
  cases E.find? (isE nm ks) <;> rfl
/-- the values come out -/
abbrev Vs := List (Str × Int)
def vsD (vs : Vs) : List (L2.Key × D) := vs.map fun p => (Sum.inr p.1, D.int p.2)
def vget (vs : Vs) (x : Str) : Option Int := (vs.find? fun p => decide (p.1 = x)).map (·.2)
def vput (vs : Vs) (x : Str) (v : Int) : Vs := if (vs.any fun p => decide (p.1 = x)) = true then vs.map fun p => if p.1 = x then (p.1, v) else p else vs ++ [(x, v)]
theorem look_vs (x : Str) : ∀ vs : Vs, lookK (vsD vs) (.inr x) = (vget vs x).map .int
  | [] => rfl
  | p :: T => by
    have ih := look_vs x T
    unfold lookK vget vsD at *
    rw [List.map_cons]
    by_cases h : p.1 = x
    · rw [List.find?_cons_of_pos (by simpa using h), List.find?_cons_of_pos (by simpa using h)]; rfl
    · rw [List.find?_cons_of_neg (by simpa using h), List.find?_cons_of_neg (by simpa using h)]; exact ih
theorem put_vs (vs : Vs) (x : Str) (v : Int) : putKD (vsD vs) (.inr x) (.int v) = vsD (vput vs x v) := by
  unfold putKD vput
  have e : ((vsD vs).any fun kv => decide (kv.1 = Sum.inr x)) = vs.any fun p => decide (p.1 = x) := by
    unfold vsD
    rw [List.any_map]
    congr 1
    funext p
    simp
  rw [e]
  by_cases h : (vs.any fun p => decide (p.1 = x)) = true
  · rw [if_pos h, if_pos h]
    unfold vsD
    rw [List.map_map, List.map_map]
    refine List.map_congr_left fun p _ => ?_
    show (if (Sum.inr p.1 : L2.Key) = Sum.inr x then ((Sum.inr p.1 : L2.Key), D.int v) else (Sum.inr p.1, D.int p.2)) = ((Sum.inr (if p.1 = x then (p.1, v) else p).1 : L2.Key), D.int (if p.1 = x then (p.1, v) else p).2)
    by_cases q : p.1 = x
    · rw [if_pos (by rw [q]), if_pos q]
    · rw [if_neg (fun z => q (Sum.inr.inj z)), if_neg q]
  · rw [if_neg h, if_neg h]
    unfold vsD
    rw [List.map_append]; rfl
theorem vget_put (vs : Vs) (x y : Str) (v : Int) : vget (vput vs x v) y = if y = x then some v else vget vs y := by
  unfold vput vget
  by_cases h : (vs.any fun p => decide (p.1 = x)) = true
  · rw [if_pos h]
    induction vs with
    | nil => cases h
    | cons p vs ih =>
      rw [List.map_cons]
      by_cases q : p.1 = x
      · rw [if_pos q]
        by_cases r : y = x
        · rw [if_pos r, List.find?_cons_of_pos (by simp [q, r])]; rfl
        · rw [if_neg r, List.find?_cons_of_neg (by simp [q]; exact fun z => r z.symm), List.find?_cons_of_neg (by simp [q]; exact fun z => r z.symm)]
          by_cases h2 : (vs.any fun p => decide (p.1 = x)) = true
          · rw [ih h2, if_neg r]
          · have e : (vs.map fun p => if p.1 = x then (p.1, v) else p) = vs := by
              conv => rhs; rw [← List.map_id vs]
              refine List.map_congr_left fun z hz => ?_
              have : ¬ z.1 = x := fun z' => h2 (List.any_eq_true.mpr ⟨z, hz, decide_eq_true z'⟩)
              rw [if_neg this]; rfl
            rw [e]
      · rw [if_neg q]
        have h2 : (vs.any fun p => decide (p.1 = x)) = true := by simpa [q] using h
        by_cases r : p.1 = y
        · rw [List.find?_cons_of_pos (by simpa using r), if_neg (fun z => q (r.trans z)), List.find?_cons_of_pos (by simpa using r)]
        · rw [List.find?_cons_of_neg (by simpa using r), List.find?_cons_of_neg (by simpa using r)]
          exact ih h2
  · rw [if_neg h]
    have hn : ∀ p ∈ vs, ¬ p.1 = x := fun p hp z => h (List.any_eq_true.mpr ⟨p, hp, decide_eq_true z⟩)
    rw [List.find?_append]
    by_cases r : y = x
    · have : vs.find? (fun p => decide (p.1 = y)) = none := List.find?_eq_none.mpr fun p hp => by simpa [r] using hn p hp
      rw [this, if_pos r]
      simp [r]
    · rw [if_neg r]
      cases vs.find? (fun p => decide (p.1 = y)) with
      | some p => rfl
      | none =>
        rw [Option.none_or, List.find?_cons_of_neg (by simpa using fun z : x = y => r z.symm)]; rfl
theorem snoc_ind' {α : Type} {P : List α → Prop} (h0 : P []) (h1 : ∀ l x, P l → P (l ++ [x])) (l : List α) : P l := by
  have : ∀ m : List α, P m.reverse := by
    intro m
    induction m with
    | nil => exact h0
    | cons x m ih => rw [List.reverse_cons]; exact h1 _ _ ih
  have q := this l.reverse
  rw [List.reverse_reverse] at q
  exact q
end
end Toy
namespace L3
open PySem L2
theorem ws_cut {c : Ctx} {ρ : List SD} {n : Nat} {ts us : TS} {Ψ : Out} (Nx : Nat → List SD → Prop) (h : WS c ts ρ n { nx := Nx, rt := fun _ _ => False }) (k : ∀ n1 ρ1, Nx n1 ρ1 → WS c us ρ1 n1 Ψ) : WS c (tSeq ts us) ρ n Ψ :=
  ws_seq (h.mono (fun n1 ρ1 q => k n1 ρ1 q) (fun _ _ q => q.elim) (fun _ _ q => q.elim) (fun _ _ q => q.elim))
end L3
namespace Toy
open PySem L2 L3
local macro_rules | `(tactic| walk_at "we1") => `(tactic| first
  | ((with_reducible refine' we_var ?hv ?_); (case hv => rfl))
  | (with_reducible refine we_int ?_)
  | (with_reducible refine we_str ?_)
  | (with_reducible refine we_bl ?_)
  | (with_reducible refine we_non ?_)
  | ((with_reducible refine' we_dix ?hv ?_); (case hv => rfl))
  | (with_reducible refine we_op ?_)
  | ((with_reducible refine' we_dget ?hv ?_); (case hv => rfl))
  | (with_reducible refine we_count ?_)
  | (with_reducible refine we_cb ?_)
  | (with_reducible refine we_call0 ?_)
  | (with_reducible refine we_tup ?_)
  | (with_reducible refine we_lst ?_)
  | (with_reducible refine we_if ?_)
  | (with_reducible refine we_not ?_)
  | (with_reducible refine we_and ?_)
  | (with_reducible refine we_or ?_)
  | (with_reducible refine we_isN ?_)
  | (with_reducible refine we_notN ?_)
  | (with_reducible refine we_sl ?_)
  | (with_reducible refine wa_cons ?_)
  | (with_reducible refine wa_nil ?_)
  | (with_reducible refine wt_test ?_)
  | (with_reducible refine wt_B ?_)
  | (with_reducible refine wt_and ?_)
  | (with_reducible refine wt_or ?_)
  | (with_reducible refine wt_not ?_)
  | (with_reducible refine wt_yes ?_)
  | (with_reducible refine wo_none ?_)
  | (with_reducible refine wo_some ?_)
  | ((with_reducible refine' r2_ix ?hx ?_); (case hx => rfl))
  | (with_reducible refine r2_isN ?_)
  | (with_reducible refine r2_notN ?_)
  | (with_reducible refine r2_lt ?_)
  | (with_reducible refine r2_le ?_)
  | (with_reducible refine r2_gt ?_)
  | (with_reducible refine r2_ge ?_)
  | (with_reducible refine r2_sub ?_)
  | (with_reducible refine r2_addI ?_)
  | (with_reducible refine r2_eqI ?_)
  | (with_reducible refine r2_neI ?_)
  | (with_reducible refine rc_int ?_)
  | (with_reducible refine rc_abs ?_)
  | ((with_reducible refine' rc_len ?hl ?_); (case hl => rfl))
  | (with_reducible refine wi_seq ?_)
  | (with_reducible refine wi_rng1 ?_)
  | (with_reducible refine wi_rng2 ?_)
  | (with_reducible refine wi_enum ?_)
  | (refine ⟨_, rfl, ?_⟩))
local macro_rules | `(tactic| walk_at "ws1") => `(tactic| first
  | (with_reducible refine ws_seq ?_)
  | (with_reducible refine ws_set ?_)
  | (with_reducible refine ws_ret ?_)
  | (with_reducible refine ws_if ?_)
  | (with_reducible refine ws_next ?_)
  | (with_reducible refine ws_asg ?_))
local macro_rules | `(tactic| walk_at "wg1") => `(tactic| first
  | (with_reducible refine wg_name (rw_name (by decide)) ?_)
  | (with_reducible refine wg_name (fun _ _ => trivial) ?_)
  | ((with_reducible refine' wg_tup ?hl ?_); (case hl => rfl))
  | (with_reducible refine wgs_cons rw_trans ?_)
  | (with_reducible refine wgs_nil rw_refl ?_)
  | (with_reducible refine wgs_cons (fun _ _ _ _ _ => trivial) ?_)
  | (with_reducible refine wgs_nil (fun _ => trivial) ?_))
local macro_rules | `(tactic| walk_at "go") => `(tactic| repeat' (first | walk_at "we1" | walk_at "wg1"))
section
variable {P : Program} {w : World} {K : PySem.W.Frag} {mg : Str → Option Value} {base : Heap}
/-! worlds -/
abbrev Told := List (Str × List Int × Int)
structure Wd where
  told : Told
  b : Int
  f : Int
abbrev wkey (nm : Str) (ks : List Int) : D := .tup [.str nm, .tup (ks.map .int)]
def wkv (t : Told) : List (D × D) := t.map fun t => (wkey t.1 t.2.1, .int t.2.2)
def wD (P : Program) (w : World) (W : Wd) : D := .tup [.dcn P w (wkv W.told), .int W.b, .int W.f]
def wlook (t : Told) (nm : Str) (ks : List Int) : Option Int := (t.find? fun t => decide (t.1 = nm ∧ t.2.1 = ks)).map (·.2.2)
def wput (t : Told) (nm : Str) (ks : List Int) (v : Int) : Told := if (wlook t nm ks).isSome then t.map fun t => if t.1 = nm ∧ t.2.1 = ks then (t.1, t.2.1, v) else t else t ++ [(nm, ks, v)]
theorem nk_wkey (a b : Str) (ks ls : List Int) : nk (wkey a ks) = nk (wkey b ls) ↔ a = b ∧ ks = ls := by
  constructor
  · intro h
    have h' : NestedKey.tup [.text a, .tup (nkAll (ks.map D.int))] = NestedKey.tup [.text b, .tup (nkAll (ls.map D.int))] := h
    have h1 := NestedKey.tup.inj h'
    have h2 := List.cons.inj h1
    have h3 := List.cons.inj h2.2
    exact ⟨NestedKey.text.inj h2.1, nk_ints _ _ (NestedKey.tup.inj h3.1)⟩
  · rintro ⟨rfl, rfl⟩; rfl
theorem look_w (nm : Str) (ks : List Int) : ∀ t : Told, lookD (wkv t) (wkey nm ks) = (wlook t nm ks).map .int
  | [] => rfl
  | x :: t => by
    have ih := look_w nm ks t
    unfold lookD wlook wkv at *
    rw [List.map_cons]
    by_cases h : x.1 = nm ∧ x.2.1 = ks
    · rw [List.find?_cons_of_pos (by simpa [nk_wkey] using h), List.find?_cons_of_pos (by simpa using h)]; rfl
    · rw [List.find?_cons_of_neg (by simpa [nk_wkey] using h), List.find?_cons_of_neg (by simpa using h)]; exact ih
theorem put_w (t : Told) (nm : Str) (ks : List Int) (v : Int) : putD (wkv t) (wkey nm ks) (.int v) = wkv (wput t nm ks v) := by
  unfold putD wput
  rw [look_w]
  have e : ((wlook t nm ks).map D.int).isSome = (wlook t nm ks).isSome := by cases wlook t nm ks <;> rfl
  rw [e]
  by_cases h : (wlook t nm ks).isSome = true
  · rw [if_pos h, if_pos h]
    unfold wkv
    rw [List.map_map, List.map_map]
    refine List.map_congr_left fun x _ => ?_
    show (if nk (wkey x.1 x.2.1) = nk (wkey nm ks) then (wkey x.1 x.2.1, D.int v) else (wkey x.1 x.2.1, D.int x.2.2)) = (wkey (if x.1 = nm ∧ x.2.1 = ks then (x.1, x.2.1, v) else x).1 (if x.1 = nm ∧ x.2.1 = ks then (x.1, x.2.1, v) else x).2.1, D.int (if x.1 = nm ∧ x.2.1 = ks then (x.1, x.2.1, v) else x).2.2)
    by_cases q : x.1 = nm ∧ x.2.1 = ks
    · rw [if_pos ((nk_wkey _ _ _ _).mpr q), if_pos q]
    · rw [if_neg (fun z => q ((nk_wkey _ _ _ _).mp z)), if_neg q]
  · rw [if_neg h, if_neg h]
    unfold wkv
    rw [List.map_append]; rfl
theorem key_w (nm : Str) (ks : List Int) : keyD (wkey nm ks) = true := by
  have h : keyD (wkey nm ks) = ((true && (nkOkAll (ks.map D.int) && true)) && decide (max 0 (max (NestedKey.depthAll (nkAll (ks.map D.int)) + 1) 0) + 1 ≤ 8)) := rfl
  rw [h, key_ints, ndep_ints]; rfl
/-- (i + 1) * k .. -/
def wterms : Int → List Int → List Int
  | _, [] => []
  | i, k :: ks => (i + 1) * k :: wterms (i + 1) ks
def ans (W : Wd) (nm : Str) (ks : List Int) : Int := match wlook W.told nm ks with | some v => v | none => W.b + W.f * (wterms 0 ks).sum
def mulT : D → D
  | .tup [.int i, .int k] => .int ((i + 1) * k)
  | _ => .non
theorem enum_terms : ∀ (ks : List Int) (i : Int), (enumD i (ks.map .int)).map mulT = (wterms i ks).map .int
  | [], _ => rfl
  | k :: ks, i => by
    show mulT (.tup [.int i, .int k]) :: (enumD (i + 1) (ks.map .int)).map mulT = _
    rw [enum_terms ks (i + 1)]; rfl
def small (M : Nat) (ks : List Int) : Prop := ks.length ≤ 3 ∧ ∀ k ∈ ks, k.natAbs ≤ M
theorem terms_le (M : Nat) : ∀ (ks : List Int) (i : Nat), i + ks.length ≤ 3 → (∀ k ∈ ks, k.natAbs ≤ M) → (wterms (i : Int) ks).sum.natAbs ≤ ks.length * (3 * M)
  | [], _, _, _ => Nat.zero_le _
  | k :: ks, i, h, hk => by
    have hl : (k :: ks).length = ks.length + 1 := rfl
    have e : ((i : Int) + 1) = ((i + 1 : Nat) : Int) := by omega
    have ih := terms_le M ks (i + 1) (by omega) fun x hx => hk x (List.mem_cons_of_mem _ hx)
    show (((i : Int) + 1) * k + (wterms ((i : Int) + 1) ks).sum).natAbs ≤ _
    rw [e]
    have h1 := Int.natAbs_add_le (((i + 1 : Nat) : Int) * k) (wterms ((i + 1 : Nat) : Int) ks).sum
    have h2 : (((i + 1 : Nat) : Int) * k).natAbs ≤ 3 * M := by
      rw [Int.natAbs_mul]
      have a1 : ((i + 1 : Nat) : Int).natAbs ≤ 3 := by omega
      exact Nat.mul_le_mul a1 (hk k List.mem_cons_self)
    rw [hl, Nat.succ_mul]
    omega
structure okW (W : Wd) : Prop where
  n : W.told.length ≤ 100
  t : ∀ t ∈ W.told, t.2.2.natAbs ≤ 4
  b : W.b.natAbs ≤ 2 ^ 100
  f : W.f.natAbs ≤ 2
theorem wlook_mem {t : Told} {nm : Str} {ks : List Int} {v : Int} (h : wlook t nm ks = some v) : ∃ x ∈ t, x.2.2 = v := by
  unfold wlook at h
  cases q : t.find? (fun t => decide (t.1 = nm ∧ t.2.1 = ks)) with
  | none => rw [q] at h; cases h
  | some x => rw [q] at h; exact ⟨x, List.mem_of_find?_eq_some q, Option.some.inj h⟩
theorem ans_le {W : Wd} (hW : okW W) {M : Nat} (hM : 2 ^ 100 ≤ M) {nm : Str} {ks : List Int} (hk : small M ks) : (ans W nm ks).natAbs ≤ 32 * M := by
  unfold ans
  cases h : wlook W.told nm ks with
  | some v =>
    obtain ⟨x, hx, e⟩ := wlook_mem h
    have := hW.t x hx
    rw [e] at this
    show v.natAbs ≤ _
    omega
  | none =>
    show (W.b + W.f * (wterms 0 ks).sum).natAbs ≤ _
    have h1 := Int.natAbs_add_le W.b (W.f * (wterms 0 ks).sum)
    rw [Int.natAbs_mul] at h1
    have h2 := terms_le M ks 0 (by have := hk.1; omega) hk.2
    have h3 : W.f.natAbs * (wterms 0 ks).sum.natAbs ≤ 2 * (ks.length * (3 * M)) := Nat.mul_le_mul hW.f h2
    have h4 : ks.length * (3 * M) ≤ 3 * (3 * M) := Nat.mul_le_mul_right _ hk.1
    have h5 := hW.b
    omega
theorem log2_small {n k : Nat} (h : n < 2 ^ k) : n.log2 ≤ k := by
  by_cases z : n = 0
  · subst z; exact Nat.zero_le _
  · exact Nat.le_of_lt ((Nat.log2_lt z).mpr h)
theorem mulW_small {i j : Int} (h1 : i.natAbs < 2 ^ 400) (h2 : j.natAbs < 2 ^ 400) : CMulW i j := by
  have a := log2_small h1
  have b := log2_small h2
  unfold CMulW
  omega
def spAns (P : Program) (w : World) : L3.Spec := fun bag n ds Φ => ∃ (W : Wd) (nm : Str) (ks : List Int), ds = [wD P w W, .str nm, .tup (ks.map .int)] ∧ okW W ∧ small (2 ^ 200) ks ∧ Φ n (.int (ans W nm ks))
abbrev s_law_answer : Stmt := top 28
abbrev N_law_answer : List Str := ["world", "name", "key", "place", "number"]
theorem sc_law_answer : FnScope N_law_answer ["world", "name", "key"] (defScope s_law_answer) := ⟨rfl, rfl, rfl, by decide +kernel, rfl, by decide +kernel, by decide +kernel⟩

theorem ok_answer {f : Addr} {fd : FuncData} (F : Fun K "_law_answer" "_law_answer" s_law_answer f fd) (T : Txt mg) : FnOk P w K mg base CX0 1 f fd ["world", "name", "key"] (spD K (spAns P w)) := by
  refine fn_D F sc_law_answer (fun bag n ds Φ h => ?_) (fun cdv A outer s H Ex O bag n ds Φ hr h => ?_)
  · obtain ⟨W, nm, ks, e, _⟩ := h
    rw [e]; rfl
  · obtain ⟨W, nm, ks, e, hW, hk, kk⟩ := h
    subst e
    refine ⟨_, (pss_cons (ps_if (pt_cmpR (x_inN P w K (by exact hu65 hr)) (pe_tup (pa_cons (pv 1) (pa_cons (pv 2) pa_nil))) (pe_ix (x_ix K) (pv 0) pe_int (fun _ _ => rfl)) (by with_unfolding_all rfl)) (pss_one (ps_ret (pe_ix (x_ixR P w K (by exact hr.units)) (pe_ix (x_ix K) (pv 0) pe_int (fun _ _ => rfl)) (pe_tup (pa_cons (pv 1) (pa_cons (pv 2) pa_nil))) (fun _ _ => rfl)))) pss_nil)
  (pss_one (ps_ret (pe_op (x_add K) (pe_ix (x_ix K) (pv 0) pe_int (fun _ _ => rfl)) (pe_op op_mulW (pe_ix (x_ix K) (pv 0) pe_int (fun _ _ => rfl)) (pe_callB (x_sum K) (by rfl) T.b_sum (by decide +kernel) (pa_cons (pe_lc (own := [("place", 3), ("number", 4)]) (g := gTup K 2 (gCons (gName 3) (gCons (gName 4) gNil))) (tt := tYes) rfl sc_law_answer.nd (x_enumT K (by rfl) T.b_enumerate (pa_cons (pv 2) pa_nil)) (blkOk_by (own := [("place", 3), ("number", 4)]) (N := N_law_answer) (sc := defScope s_law_answer) (by decide +kernel)) (fun _ _ _ _ _ => (x_tgt K (pg_tup (by rfl) (pgs_cons (pg_name (i := 3) sc_law_answer.nd rfl (Or.inl rfl)) (pgs_cons (pg_name (i := 4) sc_law_answer.nd rfl (Or.inl rfl)) pgs_nil))))) (fun _ _ _ _ _ => pts_nil) (fun _ _ _ _ _ => (pe_op op_mulW (pe_op (x_add K) (pv 3) pe_int) (pv 4)))) pa_nil))))))), ?_⟩
    show WS _ _ [.val (wD P w W), .val (.str nm), .val (.tup (ks.map .int)), .un, .un] n _
    walk_at "ws1"
    walk_at "ws1"
    walk_at "go"
    refine ⟨Nat.le_of_ble_eq_true rfl, ?_⟩
    walk_at "go"
    refine r2_inN (key_w nm ks) ?_
    rw [look_w]
    refine ⟨_, rfl, ?_⟩
    have ea : ∀ v, wlook W.told nm ks = some v → ans W nm ks = v := fun v h => by unfold ans; rw [h]
    have eb : wlook W.told nm ks = none → ans W nm ks = W.b + W.f * (wterms 0 ks).sum := fun h => by unfold ans; rw [h]
    cases hl : wlook W.told nm ks with
    | some v =>
      refine itT rfl ?_
      walk_at "ws1"
      walk_at "go"
      refine ⟨Nat.le_of_ble_eq_true rfl, ?_⟩
      refine r2_ixN (f := .int v) (key_w nm ks) (by rw [look_w, hl]; rfl) ?_
      rw [ea v hl] at kk
      exact kk
    | none =>
      refine itF rfl ?_
      rw [eb hl] at kk
      walk_at "ws1"
      walk_at "ws1"
      walk_at "go"
      refine wf_we (wf_map mulT (fun _ => true) (wi_enumT ?_))
      walk_at "go"
      refine ⟨by rw [enumD_len, List.length_map]; have := hk.1; omega, fun d hd m => ?_, ?_⟩
      · obtain ⟨j, hj⟩ := List.getElem?_of_mem hd
        obtain ⟨e, he, rfl⟩ := enumD_get hj
        obtain ⟨k, hk1, rfl, hk2, _⟩ := map_at he
        have hjl : j < ks.length := (List.getElem?_eq_some_iff.mp hk1).1
        have := hk.1
        walk_at "go"
        refine ⟨rfl, rfl, fun _ => ?_⟩
        walk_at "go"
        have hkk := hk.2 k hk2
        refine r2_mulW (mulW_small (by omega) (by omega)) ?_
        exact ⟨rfl, rfl⟩
      rw [filt_all, enum_terms]
      refine wa_nil (rc_sum ?_)
      have hs : (wterms 0 ks).sum.natAbs ≤ ks.length * (3 * 2 ^ 200) := terms_le (2 ^ 200) ks 0 (by have := hk.1; omega) hk.2
      have h4 : ks.length * (3 * 2 ^ 200) ≤ 3 * (3 * 2 ^ 200) := Nat.mul_le_mul_right _ hk.1
      have hf := hW.f
      refine r2_mulW (mulW_small (by omega) (by have := Nat.le_trans hs h4; omega)) ?_
      walk_at "go"
      exact kk
/-! the true answers -/
def IsTrue (W : Wd) (es : List Toy.Ev) (V : Str → Int) : Prop := ∀ e ∈ es, V e.nm = ans W e.nm (e.needs.map V)
theorem goodEvs_snoc {es : List Toy.Ev} {e : Toy.Ev} (h : goodEvs (es ++ [e])) : goodEvs es ∧ goodEv (es.map Toy.Ev.nm) e := by
  obtain ⟨h1, h2⟩ := h
  rw [List.length_append] at h1
  have hl : ([e] : List Toy.Ev).length = 1 := rfl
  refine ⟨⟨by omega, fun i x hx => ?_⟩, ?_⟩
  · have hi : i < es.length := (List.getElem?_eq_some_iff.mp hx).1
    have := h2 i x (by rw [List.getElem?_append_left hi]; exact hx)
    rw [List.take_append_of_le_length (Nat.le_of_lt hi)] at this
    exact this
  · have := h2 es.length e (by rw [List.getElem?_append_right (Nat.le_refl _), Nat.sub_self]; rfl)
    rw [List.take_append_of_le_length (Nat.le_refl _), List.take_length] at this
    exact this
theorem goodEvs_mem {es : List Toy.Ev} (h : goodEvs es) {e : Toy.Ev} (he : e ∈ es) : ∃ i, es[i]? = some e ∧ goodEv ((es.take i).map Toy.Ev.nm) e := by
  obtain ⟨i, hi⟩ := List.getElem?_of_mem he
  exact ⟨i, hi, h.2 i e hi⟩
theorem goodEvs_needs {es : List Toy.Ev} (h : goodEvs es) {e : Toy.Ev} (he : e ∈ es) : ∀ x ∈ e.needs, x ∈ es.map Toy.Ev.nm := fun x hx => by
  obtain ⟨i, _, g⟩ := goodEvs_mem h he
  obtain ⟨y, hy, rfl⟩ := List.mem_map.mp (g.2.2.2.2.2.2.1 x hx)
  exact List.mem_map.mpr ⟨y, List.mem_of_mem_take hy, rfl⟩
def bnd (n : Nat) : Nat := 2 ^ (100 + 5 * n)
theorem bnd_succ (n : Nat) : bnd (n + 1) = 32 * bnd n := by
  unfold bnd
  rw [show 100 + 5 * (n + 1) = (100 + 5 * n) + 5 from by omega, Nat.pow_add]; omega
theorem bnd_ge (n : Nat) : 2 ^ 100 ≤ bnd n := Nat.pow_le_pow_right (by decide) (by omega)
theorem bnd_mono {n m : Nat} (h : n ≤ m) : bnd n ≤ bnd m := Nat.pow_le_pow_right (by decide) (by omega)
theorem bnd_12 : bnd 12 = 2 ^ 160 := rfl
theorem exists_V {W : Wd} (hW : okW W) (es : List Toy.Ev) : goodEvs es → ∃ V : Str → Int, IsTrue W es V ∧ ∀ x, (V x).natAbs ≤ bnd es.length := by
  refine snoc_ind' (P := fun es => goodEvs es → ∃ V : Str → Int, IsTrue W es V ∧ ∀ x, (V x).natAbs ≤ bnd es.length) (fun _ => ⟨fun _ => 0, (fun e he => nomatch he), fun _ => Nat.zero_le _⟩) (fun es e ih h => ?_) es
  obtain ⟨h1, h2⟩ := goodEvs_snoc h
  obtain ⟨V, hV, hb⟩ := ih h1
  refine ⟨fun x => if x = e.nm then ans W e.nm (e.needs.map V) else V x, fun e' he' => ?_, fun x => ?_⟩
  · have hne : ∀ e' : Toy.Ev, (∀ x ∈ e'.needs, x ∈ es.map Toy.Ev.nm) → e'.needs.map (fun x => if x = e.nm then ans W e.nm (e.needs.map V) else V x) = e'.needs.map V := fun e' hn => by
      refine List.map_congr_left fun x hx => ?_
      show (if x = e.nm then _ else V x) = V x
      rw [if_neg (fun q : x = e.nm => h2.2.1 (by rw [← q]; exact hn x hx))]
    rcases List.mem_append.mp he' with q | q
    · rw [hne e' (goodEvs_needs h1 q)]
      have : e'.nm ≠ e.nm := fun z => h2.2.1 (z ▸ List.mem_map.mpr ⟨e', q, rfl⟩)
      show (if e'.nm = e.nm then _ else V e'.nm) = _
      rw [if_neg this]
      exact hV e' q
    · rw [List.mem_singleton.mp q, hne e h2.2.2.2.2.2.2.1]
      show (if e.nm = e.nm then _ else _) = _
      rw [if_pos rfl]
  · show (if x = e.nm then ans W e.nm (e.needs.map V) else V x).natAbs ≤ bnd (es ++ [e]).length
    rw [List.length_append]
    show _ ≤ bnd (es.length + 1)
    rw [bnd_succ]
    by_cases q : x = e.nm
    · rw [if_pos q]
      refine ans_le hW (bnd_ge _) ⟨by rw [List.length_map]; exact h2.2.2.2.2.2.1, fun k hk => ?_⟩
      obtain ⟨y, _, rfl⟩ := List.mem_map.mp hk
      exact hb y
    · rw [if_neg q]
      have := hb x
      omega
theorem exists_V' {W : Wd} (hW : okW W) {es : List Toy.Ev} (h : goodEvs es) : ∃ V : Str → Int, IsTrue W es V ∧ ∀ x, (V x).natAbs ≤ 2 ^ 160 := by
  obtain ⟨V, h1, h2⟩ := exists_V hW es h
  exact ⟨V, h1, fun x => Nat.le_trans (h2 x) (by rw [← bnd_12]; exact bnd_mono h.1)⟩
def trD (V : Str → Int) (e : Toy.Ev) : D := .tup [.tup ((e.needs.map V).map .int), .int (V e.nm)]
def trK (V : Str → Int) (es : List Toy.Ev) : List (L2.Key × D) := es.map fun e => (Sum.inr e.nm, trD V e)
theorem look_tr (V : Str → Int) (x : Str) : ∀ es : List Toy.Ev, x ∈ es.map Toy.Ev.nm → ∃ e ∈ es, e.nm = x ∧ lookK (trK V es) (.inr x) = some (trD V e)
  | [], h => nomatch h
  | e :: es, h => by
    by_cases q : e.nm = x
    · refine ⟨e, List.mem_cons_self, q, ?_⟩
      unfold lookK trK
      rw [List.map_cons, List.find?_cons_of_pos (by simpa using q)]; rfl
    · obtain ⟨e', h1, h2, h3⟩ := look_tr V x es (by
        rcases List.mem_cons.mp h with z | z
        · exact absurd z.symm q
        · exact z)
      refine ⟨e', List.mem_cons_of_mem _ h1, h2, ?_⟩
      unfold lookK trK at *
      rw [List.map_cons, List.find?_cons_of_neg (by simpa using q)]; exact h3
theorem put_tr {V : Str → Int} {es : List Toy.Ev} {e : Toy.Ev} (h : e.nm ∉ es.map Toy.Ev.nm) : putKD (trK V es) (.inr e.nm) (trD V e) = trK V (es ++ [e]) := by
  unfold putKD
  rw [if_neg]
  · unfold trK; rw [List.map_append]; rfl
  · intro q
    obtain ⟨p, hp, hq⟩ := List.any_eq_true.mp q
    obtain ⟨e', he', rfl⟩ := List.mem_map.mp hp
    have : (Sum.inr e'.nm : L2.Key) = Sum.inr e.nm := of_decide_eq_true hq
    exact h (List.mem_map.mpr ⟨e', he', Sum.inr.inj this⟩)
def valN (V : Str → Int) : D → D
  | .str x => .int (V x)
  | _ => .non
def spTrue (P : Program) (w : World) : L3.Spec := fun bag n ds Φ => ∃ (es : List Toy.Ev) (W : Wd) (V : Str → Int), ds = [.lst (es.map evT), wD P w W] ∧ goodEvs es ∧ okW W ∧ IsTrue W es V ∧ (∀ x, (V x).natAbs ≤ 2 ^ 160) ∧ Φ n (.dct (trK V es))
theorem small_map {V : Str → Int} (h : ∀ x, (V x).natAbs ≤ 2 ^ 160) {l : List Str} (hl : l.length ≤ 3) : small (2 ^ 200) (l.map V) := ⟨by rw [List.length_map]; exact hl, fun k hk => by
  obtain ⟨x, _, rfl⟩ := List.mem_map.mp hk
  exact Nat.le_trans (h x) (Nat.pow_le_pow_right (by decide) (by decide))⟩
abbrev s_law_true : Stmt := top 29
abbrev N_law_true : List Str := ["events", "world", "found", "name", "end", "kind", "needs", "need", "key"]
theorem sc_law_true : FnScope N_law_true ["events", "world"] (defScope s_law_true) := ⟨rfl, rfl, rfl, by decide +kernel, rfl, by decide +kernel, by decide +kernel⟩

theorem ok_true {f : Addr} {fd : FuncData} (F : Fun K "_law_true" "_law_true" s_law_true f fd) (T : Txt mg) (D_law_answer : Dn P w K mg base "_law_answer" 1 ["world", "name", "key"] [] [] (spAns P w)) : FnOk P w K mg base CX0 2 f fd ["events", "world"] (spD K (spTrue P w)) := by
  refine fn_D F sc_law_true (fun bag n ds Φ h => ?_) (fun cdv A outer s H Ex O bag n ds Φ hr h => ?_)
  · obtain ⟨es, W, V, e, _⟩ := h
    rw [e]; rfl
  · obtain ⟨es, W, V, e, hg, hW, hV, hb, kk⟩ := h
    subst e
    refine ⟨_, (pss_cons (ps_set (i := 2) sc_law_true.nd rfl (Or.inr rfl) pe_dnewK)
  (pss_cons (ps_for PassesOwn.never rfl (x_seq K (pv 0)) (x_tgt K (pg_tup (by rfl) (pgs_cons (pg_name (i := 3) sc_law_true.nd rfl (Or.inl rfl)) (pgs_cons (pg_name (i := 4) sc_law_true.nd rfl (Or.inl rfl)) (pgs_cons (pg_name (i := 5) sc_law_true.nd rfl (Or.inl rfl)) (pgs_cons (pg_name (i := 6) sc_law_true.nd rfl (Or.inl rfl)) pgs_nil)))))) (pss_cons (ps_set (i := 8) sc_law_true.nd rfl (Or.inl rfl) (pe_callTy (x_tup K) (by rfl) T.b_tuple (by decide +kernel) (pa_cons (pe_lc (own := [("need", 7)]) (g := gName 7) (tt := tYes) rfl sc_law_true.nd (x_seq K (pv 6)) (blkOk_by (own := [("need", 7)]) (N := N_law_true) (sc := defScope s_law_true) (by decide +kernel)) (fun _ _ _ _ _ => (pg_name (i := 7) sc_law_true.nd rfl (Or.inl rfl))) (fun _ _ _ _ _ => pts_nil) (fun _ _ _ _ _ => (pe_ix (x_ix K) (pe_dget (by exact hu1 hr) (pv 2) (pv 7) (fun _ _ => rfl)) pe_int (fun _ _ => rfl)))) pa_nil)))
  (pss_one (ps_dput (by exact hu1 hr) (pv 2) (pv 3) (pe_tup (pa_cons (pv 8) (pa_cons (pe_call D_law_answer.G (hr.mono (by decide)) (by rfl) D_law_answer.m D_law_answer.k D_law_answer.b D_law_answer.v pass0 (pa_cons (pv 1) (pa_cons (pv 3) (pa_cons (pv 8) pa_nil)))) pa_nil))) rfl))))
  (pss_one (ps_ret (pv 2))))), ?_⟩
    show WS _ _ [.val (.lst (es.map evT)), .val (wD P w W), .un, .un, .un, .un, .un, .un, .un] n _
    walk_at "ws1"
    refine ws_knew (i := 2) (Nat.le_of_ble_eq_true rfl) ?_
    walk_at "ws1"
    refine ws_for ?_
    walk_at "go"
    refine ⟨fun i m ρ => m = n ∧ ∃ x3 x4 x5 x6 x7 x8, ρ = [.val (.lst (es.map evT)), .val (wD P w W), .dk (trK V (es.take i)), x3, x4, x5, x6, x7, x8], ⟨rfl, _, _, _, _, _, _, rfl⟩, ?_, ?_⟩
    · rintro i m ρ1 d hd ⟨rfl, x3, x4, x5, x6, x7, x8, rfl⟩
      obtain ⟨e, hee, rfl, hm, tk⟩ := map_at hd
      obtain ⟨g1, g2, g3, g4, g5, g6, g7, g8, g9, g10, g11⟩ := hg.2 i e hee
      walk_at "go"
      walk_at "ws1"
      walk_at "ws1"
      refine we_cb (wa_cons (wf_we (wf_map (valN V) (fun _ => true) ?_)))
      walk_at "go"
      refine ⟨by rw [List.length_map]; omega, fun d hd m => ?_, ?_⟩
      · obtain ⟨x, hx, rfl⟩ := List.mem_map.mp hd
        walk_at "go"
        refine ⟨rfl, rfl, fun _ => ?_⟩
        obtain ⟨e', he', en, el⟩ := look_tr V x (es.take i) (g7 x hx)
        refine we_op (we_kget (i := 2) rfl ?_)
        walk_at "go"
        refine ⟨_, el, ?_⟩
        walk_at "go"
        rw [← en]
        exact ⟨rfl, rfl⟩
      rw [filt_all, List.map_map]
      have e3 : e.needs.map (valN V ∘ D.str) = (e.needs.map V).map .int := by rw [List.map_map]; rfl
      rw [e3]
      refine wa_nil (rc_tup rfl ?_)
      refine ws_kput (i := 2) (kvs := trK V (es.take i)) rfl (by unfold trK; rw [List.length_map, List.length_take]; have := hg.1; omega) ?_
      walk_at "go"
      refine ⟨W, e.nm, e.needs.map V, rfl, hW, small_map hb g6, ?_⟩
      walk_at "go"
      refine ⟨Nat.le_of_ble_eq_true rfl, ?_⟩
      walk_at "go"
      refine ⟨rfl, .val (.str e.nm), .val (.int e.at_), .val (.str e.kind), .val (.tup (e.needs.map .str)), x7, .val (.tup ((e.needs.map V).map .int)), ?_⟩
      rw [← hV e hm, tk, ← put_tr g2]; rfl
    · rintro m ρ1 ⟨rfl, x3, x4, x5, x6, x7, x8, rfl⟩
      refine ws_freezeK 2 rfl ?_
      rw [List.length_map, List.take_length]
      walk_at "ws1"
      walk_at "go"
      exact kk
theorem goodEvs_inj {es : List Toy.Ev} (h : goodEvs es) {e e' : Toy.Ev} (h1 : e ∈ es) (h2 : e' ∈ es) (hn : e.nm = e'.nm) : e = e' := by
  obtain ⟨i, hi, gi⟩ := goodEvs_mem h h1
  obtain ⟨j, hj, gj⟩ := goodEvs_mem h h2
  rcases Nat.lt_trichotomy i j with q | q | q
  · exact absurd (List.mem_map.mpr ⟨e, List.mem_of_getElem? (by rw [List.getElem?_take, if_pos q]; exact hi), hn⟩) gj.2.1
  · subst q; rw [hi] at hj; exact Option.some.inj hj
  · exact absurd (List.mem_map.mpr ⟨e', List.mem_of_getElem? (by rw [List.getElem?_take, if_pos q]; exact hj), hn.symm⟩) gi.2.1
/-! what is told of a world -/
def tkey (x : Str × List Int × Int) : Str × List Int := (x.1, x.2.1)
structure okT (es : List Toy.Ev) (t : Told) : Prop where
  nd : (t.map tkey).Nodup
  mem : ∀ x ∈ t, ∃ e ∈ es, x.1 = e.nm ∧ x.2.1.length = e.needs.length ∧ ∀ k ∈ x.2.1, k.natAbs ≤ 2 ^ 160
theorem okT_nil {es : List Toy.Ev} : okT es [] := ⟨List.nodup_nil, fun _ h => nomatch h⟩
theorem wlook_none {t : Told} {nm : Str} {ks : List Int} (h : wlook t nm ks = none) : (nm, ks) ∉ t.map tkey := fun q => by
  obtain ⟨x, hx, hk⟩ := List.mem_map.mp q
  unfold wlook at h
  cases z : t.find? (fun t => decide (t.1 = nm ∧ t.2.1 = ks)) with
  | some y => rw [z] at h; cases h
  | none =>
    have := List.find?_eq_none.mp z x hx
    have hk' : x.1 = nm ∧ x.2.1 = ks := ⟨congrArg Prod.fst hk, congrArg Prod.snd hk⟩
    simp [hk'] at this
theorem okT_put {es : List Toy.Ev} {t : Told} (h : okT es t) {e : Toy.Ev} (he : e ∈ es) {ks : List Int} {v : Int} (hl : ks.length = e.needs.length) (hk : ∀ k ∈ ks, k.natAbs ≤ 2 ^ 160) : okT es (wput t e.nm ks v) := by
  unfold wput
  split
  · refine ⟨?_, fun x hx => ?_⟩
    · rw [List.map_map]
      have : (tkey ∘ fun x : Str × List Int × Int => if x.1 = e.nm ∧ x.2.1 = ks then (x.1, x.2.1, v) else x) = tkey := by
        funext x
        show tkey (if x.1 = e.nm ∧ x.2.1 = ks then (x.1, x.2.1, v) else x) = tkey x
        split <;> rfl
      rw [this]; exact h.nd
    · obtain ⟨y, hy, rfl⟩ := List.mem_map.mp hx
      have := h.mem y hy
      split <;> exact this
  · rename_i hn
    have hn' : wlook t e.nm ks = none := by
      cases q : wlook t e.nm ks with
      | none => rfl
      | some v => rw [q] at hn; exact absurd rfl hn
    refine ⟨?_, fun x hx => ?_⟩
    · rw [List.map_append]
      refine List.nodup_append.mpr ⟨h.nd, by simp, fun a ha b hb => ?_⟩
      have hb' : b = (e.nm, ks) := List.mem_singleton.mp hb
      rw [hb']
      exact fun q => wlook_none hn' (q ▸ ha)
    · rcases List.mem_append.mp hx with q | q
      · exact h.mem x q
      · rw [List.mem_singleton.mp q]; exact ⟨e, he, rfl, hl, hk⟩
/-! a world by digits -/
def spMade (P : Program) (w : World) : L3.Spec := fun bag n ds Φ => ∃ (b q : Addr) (es : List Toy.Ev), bag = some (b, q) ∧ ds = [.adr b, .lst (es.map evT)] ∧ goodEvs es ∧ n + 30 < 2 ^ 60 ∧ ∀ W n', okW W → okT es W.told → n' ≤ n + 30 → Φ n' (wD P w W)
theorem wput_len (t : Told) (nm : Str) (ks : List Int) (v : Int) : (wput t nm ks v).length ≤ t.length + 1 := by
  unfold wput
  split
  · rw [List.length_map]; omega
  · rw [List.length_append]; exact Nat.le_refl _
theorem wput_le {t : Told} {nm : Str} {ks : List Int} {v : Int} (h : ∀ x ∈ t, x.2.2.natAbs ≤ 4) (hv : v.natAbs ≤ 4) : ∀ x ∈ wput t nm ks v, x.2.2.natAbs ≤ 4 := by
  unfold wput
  split
  · intro x hx
    obtain ⟨y, hy, rfl⟩ := List.mem_map.mp hx
    by_cases q : y.1 = nm ∧ y.2.1 = ks
    · rw [if_pos q]; exact hv
    · rw [if_neg q]; exact h y hy
  · intro x hx
    rcases List.mem_append.mp hx with q | q
    · exact h x q
    · rw [List.mem_singleton.mp q]; exact hv
theorem four {r : Int} (h0 : 0 ≤ r) (h4 : r < 4) : r = 0 ∨ r = 1 ∨ r = 2 ∨ r = 3 := by omega
abbrev s_law_made_world : Stmt := top 31
abbrev N_law_made_world : List Str := ["bag", "events", "base", "world", "event", "key"]
theorem sc_law_made_world : FnScope N_law_made_world ["bag", "events"] (defScope s_law_made_world) := ⟨rfl, rfl, rfl, by decide +kernel, rfl, by decide +kernel, by decide +kernel⟩

theorem ok_made {f : Addr} {fd : FuncData} (F : Fun K "_law_made_world" "_law_made_world" s_law_made_world f fd) (T : Txt mg) (D_law_draw : Dn P w K mg base "_law_draw" 1 ["bag", "limit"] [] [] spDraw) (D_law_true : Dn P w K mg base "_law_true" 2 ["events", "world"] [] [] (spTrue P w)) : FnOk P w K mg base CX0 3 f fd ["bag", "events"] (spD K (spMade P w)) := by
  refine fn_D F sc_law_made_world (fun bag n ds Φ h => ?_) (fun cdv A outer s H Ex O bag n ds Φ hr h => ?_)
  · obtain ⟨b, q, es, _, e, _⟩ := h
    rw [e]; rfl
  · obtain ⟨b, q, es, eb, e, hg, hn, kk⟩ := h
    subst eb; subst e
    refine ⟨_, (pss_cons (ps_set (i := 2) sc_law_made_world.nd rfl (Or.inl rfl) (pe_ix (x_ix K) (pe_lst (pa_cons pe_int (pa_cons pe_int (pa_cons pe_int (pa_cons (pe_op op_pow pe_int pe_int) pa_nil))))) (pe_call D_law_draw.G (hr.mono (by decide)) (by rfl) D_law_draw.m D_law_draw.k D_law_draw.b D_law_draw.v pass0 (pa_cons (pv 0) (pa_cons pe_int pa_nil))) (fun _ _ => rfl)))
  (pss_cons (ps_set (i := 3) sc_law_made_world.nd rfl (Or.inl rfl) (pe_tup (pa_cons (pe_dnewN P w) (pa_cons (pv 2) (pa_cons (pe_ix (x_ix K) (pe_lst (pa_cons pe_int (pa_cons pe_int (pa_cons pe_int (pa_cons (pe_op op_sub pe_int pe_int) pa_nil))))) (pe_call D_law_draw.G (hr.mono (by decide)) (by rfl) D_law_draw.m D_law_draw.k D_law_draw.b D_law_draw.v pass0 (pa_cons (pv 0) (pa_cons pe_int pa_nil))) (fun _ _ => rfl)) pa_nil)))))
  (pss_cons (ps_for PassesOwn.never rfl (x_seq K (pv 1)) (pg_name (i := 4) sc_law_made_world.nd rfl (Or.inl rfl)) (pss_one (ps_if (pt_cmpR (x_eq K (by exact hr.units)) (pe_call D_law_draw.G (hr.mono (by decide)) (by rfl) D_law_draw.m D_law_draw.k D_law_draw.b D_law_draw.v pass0 (pa_cons (pv 0) (pa_cons pe_int pa_nil))) pe_int (nomark _)) (pss_cons (ps_set (i := 5) sc_law_made_world.nd rfl (Or.inl rfl) (pe_ix (x_ix K) (pe_dget (by exact hu1 hr) (pe_call D_law_true.G (hr.mono (by decide)) (by rfl) D_law_true.m D_law_true.k D_law_true.b D_law_true.v pass0 (pa_cons (pv 1) (pa_cons (pv 3) pa_nil))) (pe_ix (x_ix K) (pv 4) pe_int (fun _ _ => rfl)) (fun _ _ => rfl)) pe_int (fun _ _ => rfl)))
  (pss_one (ps_asg (pe_call D_law_draw.G (hr.mono (by decide)) (by rfl) D_law_draw.m D_law_draw.k D_law_draw.b D_law_draw.v pass0 (pa_cons (pv 0) (pa_cons pe_int pa_nil))) (pg_sub (pe_ix (x_ix K) (pv 3) pe_int (fun _ _ => rfl)) (pe_tup (pa_cons (pe_ix (x_ix K) (pv 4) pe_int (fun _ _ => rfl)) (pa_cons (pv 5) pa_nil))) (x_setN P w K (by exact hr.units)) (fun _ => rfl))))) pss_nil)))
  (pss_one (ps_ret (pv 3)))))), ?_⟩
    show WS _ _ [.val (.adr b), .val (.lst (es.map evT)), .un, .un, .un, .un] n _
    refine ws_cut (fun n1 ρ1 => n1 = n + 1 ∧ ∃ B : Int, B.natAbs ≤ 2 ^ 100 ∧ ρ1 = [.val (.adr b), .val (.lst (es.map evT)), .val (.int B), .un, .un, .un]) ?_ ?_
    · walk_at "ws1"
      walk_at "go"
      refine r2_pow ⟨by decide, by decide, by decide⟩ ?_
      walk_at "go"
      refine ⟨Nat.le_of_ble_eq_true rfl, ?_⟩
      walk_at "go"
      refine ⟨b, q, 4, rfl, rfl, by decide, by decide, by omega, fun r h0 h4 => ?_⟩
      obtain rfl | rfl | rfl | rfl := four h0 h4
      · exact r2_ix (f := .int 0) rfl ⟨rfl, 0, by decide, rfl⟩
      · exact r2_ix (f := .int 1) rfl ⟨rfl, 1, by decide, rfl⟩
      · exact r2_ix (f := .int 7) rfl ⟨rfl, 7, by decide, rfl⟩
      · exact r2_ix (f := .int (10 ^ 30)) rfl ⟨rfl, 10 ^ 30, by decide, rfl⟩
    rintro n1 ρ1 ⟨rfl, B, hB, rfl⟩
    refine ws_cut (fun n1 ρ1 => n1 = n + 2 ∧ ∃ (l : Addr) (F : Int), F.natAbs ≤ 2 ∧ ρ1 = [.val (.adr b), .val (.lst (es.map evT)), .val (.int B), .tw l [] [.int B, .int F], .un, .un]) ?_ ?_
    · refine ws_wnew (i := 3) (Nat.le_of_ble_eq_true rfl) ?_
      walk_at "go"
      refine ⟨Nat.le_of_ble_eq_true rfl, ?_⟩
      walk_at "go"
      refine ⟨b, q, 4, rfl, rfl, by decide, by decide, by omega, fun r h0 h4 => ?_⟩
      obtain rfl | rfl | rfl | rfl := four h0 h4
      · exact r2_ix (f := .int 0) rfl (wa_nil ⟨Nat.le_of_ble_eq_true rfl, fun l => ⟨rfl, l, 0, by decide, rfl⟩⟩)
      · exact r2_ix (f := .int 1) rfl (wa_nil ⟨Nat.le_of_ble_eq_true rfl, fun l => ⟨rfl, l, 1, by decide, rfl⟩⟩)
      · exact r2_ix (f := .int 2) rfl (wa_nil ⟨Nat.le_of_ble_eq_true rfl, fun l => ⟨rfl, l, 2, by decide, rfl⟩⟩)
      · exact r2_ix (f := .int (-1)) rfl (wa_nil ⟨Nat.le_of_ble_eq_true rfl, fun l => ⟨rfl, l, -1, by decide, rfl⟩⟩)
    rintro n1 ρ1 ⟨rfl, l, F, hF, rfl⟩
    have h12 := hg.1
    walk_at "ws1"
    refine ws_for ?_
    walk_at "go"
    refine ⟨fun i m ρ => m ≤ n + 2 + 2 * i ∧ ∃ (t : Told) (x4 x5 : SD), t.length ≤ i ∧ (∀ x ∈ t, x.2.2.natAbs ≤ 4) ∧ okT es t ∧ ρ = [.val (.adr b), .val (.lst (es.map evT)), .val (.int B), .tw l (wkv t) [.int B, .int F], x4, x5], ⟨Nat.le_refl _, [], .un, .un, Nat.le_refl _, (fun x hx => nomatch hx), okT_nil, rfl⟩, ?_, ?_⟩
    · rintro i m ρ1 d hd ⟨hm, t, x4, x5, ht, hv, hT, rfl⟩
      obtain ⟨e, hee, rfl, hmem, tk⟩ := map_at hd
      have hi : i < es.length := (List.getElem?_eq_some_iff.mp hee).1
      walk_at "go"
      refine ws_if ?_
      walk_at "go"
      refine ⟨b, q, 2, rfl, rfl, by decide, by decide, by omega, fun r h0 h4 => ?_⟩
      walk_at "go"
      refine dec2 (fun h1 => ?_) (fun h1 => ?_)
      · have hW : okW ⟨t, B, F⟩ := ⟨by show t.length ≤ 100; omega, hv, hB, hF⟩
        obtain ⟨V, hV, hb⟩ := exists_V' hW hg
        walk_at "ws1"
        refine ws_set (we_lookW 3 rfl ?_)
        refine we_op (we_dget1 ?_)
        walk_at "go"
        refine ⟨es, ⟨t, B, F⟩, V, rfl, hg, hW, hV, hb, ?_⟩
        refine ⟨_, rfl, ?_⟩
        walk_at "go"
        obtain ⟨e', he', en, el⟩ := look_tr V e.nm es (List.mem_map.mpr ⟨e, hmem, rfl⟩)
        refine ⟨_, el, ?_⟩
        walk_at "go"
        refine ⟨plain_ints _, ?_⟩
        refine ws_wput (i := 3) (l := l) (kvs := wkv t) (ds := [.int B, .int F]) rfl (by unfold wkv; rw [List.length_map]; omega) ?_
        walk_at "go"
        refine ⟨b, q, 4, rfl, rfl, by decide, by decide, by omega, fun r h0 h4 => ?_⟩
        walk_at "go"
        refine ⟨Nat.le_of_ble_eq_true rfl, key_w e.nm (e'.needs.map V), by show m + 1 + 1 ≤ _; omega, wput t e.nm (e'.needs.map V) r, .val (evT e), .val (.tup ((e'.needs.map V).map .int)), by have := wput_len t e.nm (e'.needs.map V) r; omega, wput_le hv (by omega), okT_put hT hmem (by rw [List.length_map, goodEvs_inj hg he' hmem en]) (fun k hk => by obtain ⟨y, _, rfl⟩ := List.mem_map.mp hk; exact hb y), ?_⟩
        rw [← put_w]; rfl
      · walk_at "ws1"
        exact ⟨by show m + 1 ≤ _; omega, t, .val (evT e), x5, by omega, hv, hT, rfl⟩
    · rintro m ρ1 ⟨hm, t, x4, x5, ht, hv, hT, rfl⟩
      rw [List.length_map] at hm ht
      refine ws_freezeW 3 rfl ?_
      walk_at "ws1"
      walk_at "go"
      exact kk ⟨t, B, F⟩ m ⟨by show t.length ≤ 100; omega, hv, hB, hF⟩ hT (by omega)
end
end Toy
namespace L3
open PySem L2
theorem ws_cut2 {c : Ctx} {ρ : List SD} {n : Nat} {ts us : TS} {Ψ : Out} (Nx : Nat → List SD → Prop) (h : WS c ts ρ n { nx := Nx, rt := Ψ.rt }) (k : ∀ n1 ρ1, Nx n1 ρ1 → WS c us ρ1 n1 Ψ) : WS c (tSeq ts us) ρ n Ψ :=
  ws_seq (h.mono (fun n1 ρ1 q => k n1 ρ1 q) (fun _ _ q => q) (fun _ _ q => q.elim) (fun _ _ q => q.elim))
end L3
namespace Toy
open PySem L2 L3
local macro_rules | `(tactic| walk_at "we1") => `(tactic| first
  | ((with_reducible refine' we_var ?hv ?_); (case hv => rfl))
  | (with_reducible refine we_int ?_)
  | (with_reducible refine we_str ?_)
  | (with_reducible refine we_bl ?_)
  | (with_reducible refine we_non ?_)
  | ((with_reducible refine' we_dix ?hv ?_); (case hv => rfl))
  | (with_reducible refine we_op ?_)
  | ((with_reducible refine' we_dget ?hv ?_); (case hv => rfl))
  | (with_reducible refine we_count ?_)
  | (with_reducible refine we_cb ?_)
  | (with_reducible refine we_call0 ?_)
  | (with_reducible refine we_tup ?_)
  | (with_reducible refine we_lst ?_)
  | (with_reducible refine we_if ?_)
  | (with_reducible refine we_not ?_)
  | (with_reducible refine we_and ?_)
  | (with_reducible refine we_or ?_)
  | (with_reducible refine we_isN ?_)
  | (with_reducible refine we_notN ?_)
  | (with_reducible refine we_sl ?_)
  | (with_reducible refine wa_cons ?_)
  | (with_reducible refine wa_nil ?_)
  | (with_reducible refine wt_test ?_)
  | (with_reducible refine wt_B ?_)
  | (with_reducible refine wt_and ?_)
  | (with_reducible refine wt_or ?_)
  | (with_reducible refine wt_not ?_)
  | (with_reducible refine wt_yes ?_)
  | (with_reducible refine wo_none ?_)
  | (with_reducible refine wo_some ?_)
  | ((with_reducible refine' r2_ix ?hx ?_); (case hx => rfl))
  | (with_reducible refine r2_isN ?_)
  | (with_reducible refine r2_notN ?_)
  | (with_reducible refine r2_lt ?_)
  | (with_reducible refine r2_le ?_)
  | (with_reducible refine r2_gt ?_)
  | (with_reducible refine r2_ge ?_)
  | (with_reducible refine r2_sub ?_)
  | (with_reducible refine r2_addI ?_)
  | (with_reducible refine r2_eqI ?_)
  | (with_reducible refine r2_neI ?_)
  | (with_reducible refine rc_int ?_)
  | (with_reducible refine rc_abs ?_)
  | ((with_reducible refine' rc_len ?hl ?_); (case hl => rfl))
  | (with_reducible refine wi_seq ?_)
  | (with_reducible refine wi_rng1 ?_)
  | (with_reducible refine wi_rng2 ?_)
  | (with_reducible refine wi_enum ?_)
  | (refine ⟨_, rfl, ?_⟩))
local macro_rules | `(tactic| walk_at "ws1") => `(tactic| first
  | (with_reducible refine ws_seq ?_)
  | (with_reducible refine ws_set ?_)
  | (with_reducible refine ws_ret ?_)
  | (with_reducible refine ws_if ?_)
  | (with_reducible refine ws_next ?_)
  | (with_reducible refine ws_asg ?_))
local macro_rules | `(tactic| walk_at "wg1") => `(tactic| first
  | (with_reducible refine wg_name (rw_name (by decide)) ?_)
  | (with_reducible refine wg_name (fun _ _ => trivial) ?_)
  | ((with_reducible refine' wg_tup ?hl ?_); (case hl => rfl))
  | (with_reducible refine wgs_cons rw_trans ?_)
  | (with_reducible refine wgs_nil rw_refl ?_)
  | (with_reducible refine wgs_cons (fun _ _ _ _ _ => trivial) ?_)
  | (with_reducible refine wgs_nil (fun _ => trivial) ?_))
local macro_rules | `(tactic| walk_at "go") => `(tactic| repeat' (first | walk_at "we1" | walk_at "wg1"))
section
variable {P : Program} {w : World} {K : PySem.W.Frag} {mg : Str → Option Value} {base : Heap}
def spBag (K : PySem.W.Frag) : Sp := fun vs H Q _ => ∃ (a : Addr) (ns : List Int), vs = [.ref a] ∧ SqL K H a (ns.map V.int) ∧ ns.length ≤ 63 ∧
  ∀ (b q : Addr) (cs : List Int) (H' : Hp), q ≠ b → H' b = some (.lst [.ref q, .int 0, .int 0]) → H' q = some (.lst (cs.map V.int)) → cs ≠ [] → (∀ c ∈ cs, 0 ≤ c) → cs.length ≤ 63 → Q (.ref b) H'
def absD : D → D
  | .int i => .int (if i < 0 then -i else i)
  | d => d
abbrev s_law_bag : Stmt := top 26
abbrev N_law_bag : List Str := ["script", "cell", "cells"]
theorem sc_law_bag : FnScope N_law_bag ["script"] (defScope s_law_bag) := ⟨rfl, rfl, rfl, by decide +kernel, rfl, by decide +kernel, by decide +kernel⟩

theorem ok_bag {f : Addr} {fd : FuncData} (F : Fun K "_law_bag" "_law_bag" s_law_bag f fd) (T : Txt mg) : FnOk P w K mg base CX0 1 f fd ["script"] (spBag K) := by
  refine F.ok sc_law_bag (fun vs H Q E h => ?_) (fun cdv A outer s H vs Q E hr h => ?_)
  · obtain ⟨a, ns, rfl, _⟩ := h
    rfl
  · obtain ⟨a, ns, rfl, hS, hlen, k⟩ := h
    refine ⟨_, (pss_cons (ps_setLc (i := 2) (own := [("cell", 1)]) (g := gName 1) (tt := tYes) rfl sc_law_bag.nd rfl rfl (sw_true rfl rfl rfl (by decide +kernel)) (x_seq K (pe_slice (x_sl K) (pv 0) po_none (po_some pe_int))) (blkOk_by (own := [("cell", 1)]) (N := N_law_bag) (sc := defScope s_law_bag) (by decide +kernel)) (fun _ _ _ _ _ => (pg_name (i := 1) sc_law_bag.nd rfl (Or.inl rfl))) (fun _ _ _ _ _ => pts_nil) (fun _ _ _ _ _ => (pe_callB call_absX (by rfl) T.b_abs (by decide +kernel) (pa_cons (pv 1) pa_nil))))
  (pss_cons (ps_if (pt_cmpR (x_eq K (by exact hr.units)) (pe_callB (x_len K) (by rfl) T.b_len (by decide +kernel) (pa_cons (pv 2) pa_nil)) pe_int (nomark _)) (pss_one (ps_set (i := 2) sc_law_bag.nd rfl (Or.inl rfl) (pe_lst (pa_cons pe_int pa_nil)))) pss_nil)
  (pss_one (ps_ret (pe_lst (pa_cons (pv 2) (pa_cons pe_int (pa_cons pe_int pa_nil)))))))), ?_⟩
    refine st_seq ?_
    refine' (?W1 : WS ⟨P, w, K, [], none, H⟩ _ [.val (.adr a), .un, .un] 0 { nx := fun n1 ρ1 => ∃ cs : List Int, ρ1 = [.val (.adr a), .un, .own (cs.map .int)] ∧ cs.length ≤ 63 ∧ ∀ c ∈ cs, 0 ≤ c, rt := fun _ _ => False }) (fun _ => none) [] _ H _ ?E1 ?A1
    case E1 =>
      exact { nd := List.nodup_nil, fresh := (fun l hl => nomatch hl), slots := ⟨[], .val (.adr a) (.un (.un .nil)), List.Sublist.refl _⟩, lst := (fun l hl => nomatch hl), bag := (fun b q e => nomatch e), base := Same.refl _,
              pers := (fun _ _ e => nomatch e), bO := (fun b q e => nomatch e), al := (fun o ho => nomatch ho) }
    case W1 =>
      refine ws_own (i := 2) (Nat.le_of_ble_eq_true rfl) (wf_map absD (fun _ => true) ?_)
      refine wi_seq (we_slA (a := a) (ns := ns) rfl hS rfl ?_)
      walk_at "go"
      obtain ⟨ys, e1, e2⟩ := cut_map D.int ns none (some 63)
      have hy := e2.length_le
      rw [e1]
      refine ⟨by rw [List.length_map]; omega, fun d hd m => ?_, ?_⟩
      · obtain ⟨y, hy, rfl⟩ := List.mem_map.mp hd
        walk_at "go"
        refine ⟨rfl, rfl, fun _ => ?_⟩
        walk_at "go"
        exact ⟨rfl, rfl⟩
      rw [filt_all]
      refine ⟨ys.map fun i => if i < 0 then -i else i, ?_, by rw [List.length_map]; omega, fun c hc => ?_⟩
      · rw [List.map_map, List.map_map]; rfl
      · obtain ⟨y, _, rfl⟩ := List.mem_map.mp hc
        by_cases q : y < 0
        · rw [if_pos q]; omega
        · rw [if_neg q]; omega
    refine { nx := fun L n H1 σ1 ρ1 E1 ⟨cs, e, h1, h2⟩ => ?_, rt := fun _ _ _ _ _ _ _ h => h.elim, bk := fun _ _ _ _ _ _ h => h.elim, ct := fun _ _ _ _ _ _ h => h.elim }
    subst e
    dsimp only
    refine st_seq ?_
    refine' (?W2 : WS ⟨P, w, K, [], none, H⟩ _ [.val (.adr a), .un, .own (cs.map .int)] n { nx := fun n1 ρ1 => ∃ cs : List Int, ρ1 = [.val (.adr a), .un, .own (cs.map .int)] ∧ cs.length ≤ 63 ∧ (∀ c ∈ cs, 0 ≤ c) ∧ cs ≠ [], rt := fun _ _ => False }) _ L σ1 H1 _ E1 ?A2
    case W2 =>
      refine ws_if (wt_look 2 rfl ?_)
      walk_at "go"
      refine dec2 (fun hz => ?_) (fun hz => ?_)
      · refine ws_own (i := 2) (Nat.le_of_ble_eq_true rfl) ?_
        refine wf_lst ?_
        walk_at "go"
        exact ⟨Nat.le_of_ble_eq_true rfl, [5], rfl, by decide, by decide, by decide⟩
      · walk_at "ws1"
        refine ⟨cs, rfl, h1, h2, fun q => ?_⟩
        subst q
        exact hz rfl
    refine { nx := fun L n H2 σ2 ρ2 E2 ⟨cs, e, h1, h2, h3⟩ => ?_, rt := fun _ _ _ _ _ _ _ h => h.elim, bk := fun _ _ _ _ _ _ h => h.elim, ct := fun _ _ _ _ _ _ h => h.elim }
    subst e
    obtain ⟨l, xs, g1, g2, g3, _⟩ := E2.own_at (i := 2) rfl
    have ex := g3.ints
    subst ex
    refine ⟨_, g1, Nat.le_of_ble_eq_true rfl, fun p hp => ?_⟩
    have npl : l ≠ p := fun e => by rw [← e, g2] at hp; cases hp
    exact k p l cs _ npl upd_same (by rw [upd_ne npl]; exact g2) h3 h2 h1
end
end Toy
namespace Toy
open PySem L2 L3
local macro_rules | `(tactic| walk_at "we1") => `(tactic| first
  | ((with_reducible refine' we_var ?hv ?_); (case hv => rfl))
  | (with_reducible refine we_int ?_)
  | (with_reducible refine we_str ?_)
  | (with_reducible refine we_bl ?_)
  | (with_reducible refine we_non ?_)
  | ((with_reducible refine' we_dix ?hv ?_); (case hv => rfl))
  | (with_reducible refine we_op ?_)
  | ((with_reducible refine' we_dget ?hv ?_); (case hv => rfl))
  | (with_reducible refine we_count ?_)
  | (with_reducible refine we_cb ?_)
  | (with_reducible refine we_call0 ?_)
  | (with_reducible refine we_tup ?_)
  | (with_reducible refine we_lst ?_)
  | (with_reducible refine we_if ?_)
  | (with_reducible refine we_not ?_)
  | (with_reducible refine we_and ?_)
  | (with_reducible refine we_or ?_)
  | (with_reducible refine we_isN ?_)
  | (with_reducible refine we_notN ?_)
  | (with_reducible refine we_sl ?_)
  | (with_reducible refine wa_cons ?_)
  | (with_reducible refine wa_nil ?_)
  | (with_reducible refine wt_test ?_)
  | (with_reducible refine wt_B ?_)
  | (with_reducible refine wt_and ?_)
  | (with_reducible refine wt_or ?_)
  | (with_reducible refine wt_not ?_)
  | (with_reducible refine wt_yes ?_)
  | (with_reducible refine wo_none ?_)
  | (with_reducible refine wo_some ?_)
  | ((with_reducible refine' r2_ix ?hx ?_); (case hx => rfl))
  | (with_reducible refine r2_isN ?_)
  | (with_reducible refine r2_notN ?_)
  | (with_reducible refine r2_lt ?_)
  | (with_reducible refine r2_le ?_)
  | (with_reducible refine r2_gt ?_)
  | (with_reducible refine r2_ge ?_)
  | (with_reducible refine r2_sub ?_)
  | (with_reducible refine r2_addI ?_)
  | (with_reducible refine r2_eqI ?_)
  | (with_reducible refine r2_neI ?_)
  | (with_reducible refine rc_int ?_)
  | (with_reducible refine rc_abs ?_)
  | ((with_reducible refine' rc_len ?hl ?_); (case hl => rfl))
  | (with_reducible refine wi_seq ?_)
  | (with_reducible refine wi_rng1 ?_)
  | (with_reducible refine wi_rng2 ?_)
  | (with_reducible refine wi_enum ?_)
  | (refine ⟨_, rfl, ?_⟩))
local macro_rules | `(tactic| walk_at "ws1") => `(tactic| first
  | (with_reducible refine ws_seq ?_)
  | (with_reducible refine ws_set ?_)
  | (with_reducible refine ws_ret ?_)
  | (with_reducible refine ws_if ?_)
  | (with_reducible refine ws_next ?_)
  | (with_reducible refine ws_asg ?_))
local macro_rules | `(tactic| walk_at "wg1") => `(tactic| first
  | (with_reducible refine wg_name (rw_name (by decide)) ?_)
  | (with_reducible refine wg_name (fun _ _ => trivial) ?_)
  | ((with_reducible refine' wg_tup ?hl ?_); (case hl => rfl))
  | (with_reducible refine wgs_cons rw_trans ?_)
  | (with_reducible refine wgs_nil rw_refl ?_)
  | (with_reducible refine wgs_cons (fun _ _ _ _ _ => trivial) ?_)
  | (with_reducible refine wgs_nil (fun _ => trivial) ?_))
local macro_rules | `(tactic| walk_at "go") => `(tactic| repeat' (first | walk_at "we1" | walk_at "wg1"))
section
variable {P : Program} {w : World} {K : PySem.W.Frag} {mg : Str → Option Value} {base : Heap}
/-! rows, entries -/
def rowD (b : Bool) (ds : List D) : D := if b then .lst ds else .tup ds
theorem row_seq (b : Bool) (ds : List D) : seqD (rowD b ds) = some ds := by cases b <;> rfl
theorem row_len (b : Bool) (ds : List D) : lenD (rowD b ds) = some (ds.length : Int) := by cases b <;> rfl
def spRow : L3.Spec := fun bag n ds Φ => ∃ (b : Bool) (xs : List D), ds = [rowD b xs] ∧ Φ n (.bl true)
abbrev s_is_row : Stmt := top 18
abbrev N_is_row : List Str := ["thing"]
theorem sc_is_row : FnScope N_is_row ["thing"] (defScope s_is_row) := ⟨rfl, rfl, rfl, by decide +kernel, rfl, by decide +kernel, by decide +kernel⟩

theorem ok_row {f : Addr} {fd : FuncData} (F : Fun K "is_row" "is_row" s_is_row f fd) (T : Txt mg) : FnOk P w K mg base CX0 1 f fd ["thing"] (spD K spRow) := by
  refine fn_D F sc_is_row (fun bag n ds Φ h => ?_) (fun cdv A outer s H Ex O bag n ds Φ hr h => ?_)
  · obtain ⟨b, xs, e, _⟩ := h
    rw [e]; rfl
  · obtain ⟨b, xs, e, kk⟩ := h
    subst e
    refine ⟨_, (pss_one (ps_ret (pe_callB (x_isi2 K) (by rfl) T.b_isinstance (by decide +kernel) (pa_cons (pv 0) (pa_cons (pe_tup (pa_cons (pe_bltn (v := .ty "list") (by rfl) T.b_list (by decide +kernel) rfl) (pa_cons (pe_bltn (v := .ty "tuple") (by rfl) T.b_tuple (by decide +kernel) rfl) pa_nil))) pa_nil))))), ?_⟩
    show WS _ _ [.val (rowD b xs)] n _
    walk_at "ws1"
    refine we_cb (wa_cons ?_)
    walk_at "go"
    refine we_ty ?_
    walk_at "go"
    refine we_ty ?_
    walk_at "go"
    refine ⟨Nat.le_of_ble_eq_true rfl, ?_⟩
    walk_at "go"
    cases b with
    | true => exact rc_isi2 (Us := ["list", "tuple"]) (T := "list") rfl kit_rowL kk
    | false => exact rc_isi2 (Us := ["list", "tuple"]) (T := "tuple") rfl kit_rowT kk
def spIsEn : L3.Spec := fun bag n ds Φ => ∃ (b : Bool) (nm : Str) (ks : List Int) (v : Int), ds = [.tup [.str nm, rowD b (ks.map .int), .int v]] ∧ isName nm = true ∧ ks.length ≤ 3 ∧ Φ n (.bl true)
abbrev s_is_entry : Stmt := top 19
abbrev N_is_entry : List Str := ["thing", "name", "key", "value", "number"]
theorem sc_is_entry : FnScope N_is_entry ["thing"] (defScope s_is_entry) := ⟨rfl, rfl, rfl, by decide +kernel, rfl, by decide +kernel, by decide +kernel⟩

theorem ok_isentry {f : Addr} {fd : FuncData} (F : Fun K "is_entry" "is_entry" s_is_entry f fd) (T : Txt mg) (D_is_row : Dn P w K mg base "is_row" 1 ["thing"] [] [] spRow) (D_is_name : Dn P w K mg base "is_name" 1 ["thing"] [] [] spName) (D_is_whole : Dn P w K mg base "is_whole" 1 ["thing"] [] [] spWhole) : FnOk P w K mg base CX0 2 f fd ["thing"] (spD K spIsEn) := by
  refine fn_D F sc_is_entry (fun bag n ds Φ h => ?_) (fun cdv A outer s H Ex O bag n ds Φ hr h => ?_)
  · obtain ⟨b, nm, ks, v, e, _⟩ := h
    rw [e]; rfl
  · obtain ⟨b, nm, ks, v, e, hn, hl, kk⟩ := h
    subst e
    refine ⟨_, (pss_cons (ps_if (PW.pt (pw_or (pt_not (pt_val (pe_call D_is_row.G (hr.mono (by decide)) (by rfl) D_is_row.m D_is_row.k D_is_row.b D_is_row.v pass0 (pa_cons (pv 0) pa_nil)))) (pw_or1 (pt_cmpR (x_ne K (by exact hr.units)) (pe_callB (x_len K) (by rfl) T.b_len (by decide +kernel) (pa_cons (pv 0) pa_nil)) pe_int (nomark _))))) (pss_one (ps_ret pe_bl)) pss_nil)
  (pss_cons (ps_asg (pv 0) (x_tgt K (pg_tup (by rfl) (pgs_cons (pg_name (i := 1) sc_is_entry.nd rfl (Or.inl rfl)) (pgs_cons (pg_name (i := 2) sc_is_entry.nd rfl (Or.inl rfl)) (pgs_cons (pg_name (i := 3) sc_is_entry.nd rfl (Or.inl rfl)) pgs_nil))))))
  (pss_cons (ps_if (PW.pt (pw_or (pt_not (pt_val (pe_call D_is_name.G (hr.mono (by decide)) (by rfl) D_is_name.m D_is_name.k D_is_name.b D_is_name.v pass0 (pa_cons (pv 1) pa_nil)))) (pw_or (pt_not (pt_val (pe_call D_is_row.G (hr.mono (by decide)) (by rfl) D_is_row.m D_is_row.k D_is_row.b D_is_row.v pass0 (pa_cons (pv 2) pa_nil)))) (pw_or (pt_cmpR op_gt (pe_callB (x_len K) (by rfl) T.b_len (by decide +kernel) (pa_cons (pv 2) pa_nil)) pe_int (nomark _)) (pw_or1 (pt_not (pt_val (pe_call D_is_whole.G (hr.mono (by decide)) (by rfl) D_is_whole.m D_is_whole.k D_is_whole.b D_is_whole.v pass0 (pa_cons (pv 3) pa_nil))))))))) (pss_one (ps_ret pe_bl)) pss_nil)
  (pss_one (ps_ret (pe_callB (x_all K) (by rfl) T.b_all (by decide +kernel) (pa_cons (pe_lc (own := [("number", 4)]) (g := gName 4) (tt := tYes) rfl sc_is_entry.nd (x_seq K (pv 2)) (blkOk_by (own := [("number", 4)]) (N := N_is_entry) (sc := defScope s_is_entry) (by decide +kernel)) (fun _ _ _ _ _ => (pg_name (i := 4) sc_is_entry.nd rfl (Or.inl rfl))) (fun _ _ _ _ _ => pts_nil) (fun _ _ _ _ _ => (pe_call D_is_whole.G (hr.mono (by decide)) (by rfl) D_is_whole.m D_is_whole.k D_is_whole.b D_is_whole.v pass0 (pa_cons (pv 4) pa_nil)))) pa_nil))))))), ?_⟩
    show WS _ _ [.val (.tup [.str nm, rowD b (ks.map .int), .int v]), .un, .un, .un, .un] n _
    walk_at "ws1"
    refine ws_if ?_
    walk_at "go"
    refine ⟨false, [.str nm, rowD b (ks.map .int), .int v], rfl, ?_⟩
    walk_at "go"
    refine itF rfl ?_
    walk_at "go"
    refine decF (by show ¬ (¬ (3 : Int) = 3); decide) ?_
    walk_at "ws1"
    refine ws_cut (fun n1 ρ1 => n1 = n ∧ ρ1 = [.val (.tup [.str nm, rowD b (ks.map .int), .int v]), .val (.str nm), .val (rowD b (ks.map .int)), .val (.int v), .un]) ?_ ?_
    · refine ws_asg ?_
      walk_at "go"
      exact ⟨rfl, rfl⟩
    rintro n1 ρ1 ⟨rfl, rfl⟩
    refine ws_seq ?_
    refine ws_if ?_
    walk_at "go"
    refine ⟨hn, ?_⟩
    walk_at "go"
    refine itF rfl ?_
    walk_at "go"
    refine ⟨b, _, rfl, ?_⟩
    walk_at "go"
    refine itF rfl ?_
    walk_at "go"
    refine rc_len (row_len b _) ?_
    walk_at "go"
    refine decF (by rw [List.length_map]; omega) ?_
    walk_at "go"
    refine itF rfl ?_
    walk_at "ws1"
    walk_at "ws1"
    refine we_cb (wa_cons (wf_we (wf_map (fun _ => .bl true) (fun _ => true) (wi_seq ?_))))
    walk_at "go"
    refine ⟨_, row_seq b _, by rw [List.length_map]; omega, fun d hd m => ?_, ?_⟩
    · obtain ⟨k, _, rfl⟩ := List.mem_map.mp hd
      walk_at "go"
      refine ⟨rfl, rfl, fun _ => ?_⟩
      walk_at "go"
      exact ⟨rfl, rfl⟩
    rw [filt_all]
    refine wa_nil ?_
    have e1 : ((ks.map D.int).map fun _ => D.bl true) = ((ks.map fun _ => true).map D.bl) := by rw [List.map_map, List.map_map]; rfl
    rw [e1]
    refine rc_all ?_
    have e2 : (ks.map fun _ => true).all id = true := by rw [List.all_map]; exact List.all_eq_true.mpr fun _ _ => rfl
    rw [e2]
    exact kk
/-! worlds of the package -/
structure Wp where
  told : List Ent
  b : Int
  f : Int
def wpF (W : Wp) : List (Str × D) := [("told", .tup (W.told.map entD)), ("base", .int W.b), ("factor", .int W.f)]
abbrev wpD (C : Addr) (W : Wp) : D := .obj C (wpF W)
structure WoT (K : PySem.W.Frag) (C : Addr) : Prop where
  cl : Cls K C
  n1 : NoAttr K C "told"
  n2 : NoAttr K C "base"
  n3 : NoAttr K C "factor"
def ekey (e : Ent) : Str × List Int := (e.nm, e.ks)
abbrev ekD (nm : Str) (ks : List Int) : D := .tup [.str nm, .tup (ks.map .int)]
structure okEn (e : Ent) : Prop where
  nm : isName e.nm = true
  ft : fit (.str e.nm) = true
  ks : e.ks.length ≤ 3
structure okEs (E : List Ent) : Prop where
  n : E.length ≤ 300
  e : ∀ e ∈ E, okEn e
  nd : (E.map ekey).Nodup
theorem fit_ek {nm : Str} (h : fit (.str nm) = true) (ks : List Int) : fit (ekD nm ks) = true := (fit_list (ds := [.str nm, .tup (ks.map .int)]) fun d hd => by
  rcases List.mem_cons.mp hd with q | q
  · rw [q]; exact ⟨h, Nat.zero_le _⟩
  · rw [List.mem_singleton.mp q]
    refine ⟨fit_ints ks, ?_⟩
    show PyData.depthAll (dpyAll (ks.map D.int)) + 1 ≤ 60
    rw [dep_ints]; decide).2
theorem eq_ek (a b : Str) (ks ls : List Int) : eqD (ekD a ks) (ekD b ls) = decide (a = b ∧ ks = ls) := by
  have h1 : eqD (ekD a ks) (ekD b ls) = ((a == b) && (PyData.eqvAll (dpyAll (ks.map D.int)) (dpyAll (ls.map D.int)) && true)) := rfl
  rw [h1, eq_ints]
  by_cases e1 : a = b <;> by_cases e2 : ks = ls <;> simp [e1, e2]
theorem okE_en {e : Ent} (h : okEn e) : okE e := ok_of h.ft e.ks e.v
theorem okEs_perm {E F : List Ent} (h : okEs E) (p : F.Perm E) : okEs F := ⟨by rw [p.length_eq]; exact h.n, fun e he => h.e e (p.mem_iff.mp he), (p.map ekey).nodup_iff.mpr h.nd⟩
theorem okEs_sort {E : List Ent} (h : okEs E) : okEs (sortE E) := okEs_perm h (sortE_perm E)
def spWorld : SpecI := fun bag n ds Φ => ∃ (E : List Ent) (b f : Int), ds = [.lst (E.map entD), .int b, .int f] ∧ okEs E ∧ Φ n (wpF ⟨sortE E, b, f⟩)
theorem key_ne {E : List Ent} (h : okEs E) {i j : Nat} {a b : Ent} (ha : E[i]? = some a) (hb : E[j]? = some b) (hij : i ≠ j) : ¬ (a.nm = b.nm ∧ a.ks = b.ks) := fun q => by
  have ha' : (E.map ekey)[i]? = some (ekey a) := by rw [List.getElem?_map, ha]; rfl
  have hb' : (E.map ekey)[j]? = some (ekey b) := by rw [List.getElem?_map, hb]; rfl
  have e : ekey a = ekey b := by unfold ekey; rw [q.1, q.2]
  obtain ⟨h1, h2⟩ := List.getElem?_eq_some_iff.mp ha'
  obtain ⟨h3, h4⟩ := List.getElem?_eq_some_iff.mp hb'
  exact hij ((List.getElem_inj h.nd).mp (by rw [h2, h4, e]))
abbrev s_World___init : Stmt := inClass (top 20) 0
abbrev N_World___init : List Str := ["self", "told", "base", "factor", "entry", "entries", "place"]
theorem sc_World___init : FnScope N_World___init ["self", "told", "base", "factor"] (defScope s_World___init) := ⟨rfl, rfl, rfl, by decide +kernel, rfl, by decide +kernel, by decide +kernel⟩

theorem ok_world {f C : Addr} {fd : FuncData} {dvs : List V} (F : FunD K "__init__" "World.__init__" (defArgs s_World___init) (defBody s_World___init) (defScope s_World___init) dvs [] f fd) (T : Txt mg) (TW : WoT K C) (D_is_row : Dn P w K mg base "is_row" 1 ["thing"] [] [] spRow) (D_is_entry : Dn P w K mg base "is_entry" 2 ["thing"] [] [] spIsEn) (D_is_whole : Dn P w K mg base "is_whole" 1 ["thing"] [] [] spWhole) : FnOk P w K mg base CX0 3 f fd ["self", "told", "base", "factor"] (spI K C spWorld) := by
  refine fn_ID F sc_World___init (fun bag n ds Φ h => ?_) (fun cdv A outer s H E O bag n ds Φ p dx hr h => ?_)
  · obtain ⟨E, b, f, he, _⟩ := h
    rw [he]; rfl
  · obtain ⟨E, b, f, he, hE, kk⟩ := h
    subst he
    refine ⟨_, (pss_cons (ps_if (PW.pt (pw_or (pt_not (pt_val (pe_call D_is_row.G (hr.mono (by decide)) (by rfl) D_is_row.m D_is_row.k D_is_row.b D_is_row.v pass0 (pa_cons (pv 1) pa_nil)))) (pw_or1 (pt_not (pt_val (pe_callB (x_all K) (by rfl) T.b_all (by decide +kernel) (pa_cons (pe_lc (own := [("entry", 4)]) (g := gName 4) (tt := tYes) rfl sc_World___init.nd (x_seq K (pv 1)) (blkOk_by (own := [("entry", 4)]) (N := N_World___init) (sc := defScope s_World___init) (by decide +kernel)) (fun _ _ _ _ _ => (pg_name (i := 4) sc_World___init.nd rfl (Or.inl rfl))) (fun _ _ _ _ _ => pts_nil) (fun _ _ _ _ _ => (pe_call D_is_entry.G (hr.mono (by decide)) (by rfl) D_is_entry.m D_is_entry.k D_is_entry.b D_is_entry.v pass0 (pa_cons (pv 4) pa_nil)))) pa_nil))))))) (pss_one L3.ps_never) pss_nil)
  (pss_cons (ps_set (i := 5) sc_World___init.nd rfl (Or.inl rfl) (pe_callB (x_sorted K (by exact hr.units)) (by rfl) T.b_sorted (by decide +kernel) (pa_cons (pe_lc (own := [("entry", 4)]) (g := gName 4) (tt := tYes) rfl sc_World___init.nd (x_seq K (pv 1)) (blkOk_by (own := [("entry", 4)]) (N := N_World___init) (sc := defScope s_World___init) (by decide +kernel)) (fun _ _ _ _ _ => (pg_name (i := 4) sc_World___init.nd rfl (Or.inl rfl))) (fun _ _ _ _ _ => pts_nil) (fun _ _ _ _ _ => (pe_tup (pa_cons (pe_ix (x_ix K) (pv 4) pe_int (fun _ _ => rfl)) (pa_cons (pe_callTy (x_tup K) (by rfl) T.b_tuple (by decide +kernel) (pa_cons (pe_ix (x_ix K) (pv 4) pe_int (fun _ _ => rfl)) pa_nil)) (pa_cons (pe_ix (x_ix K) (pv 4) pe_int (fun _ _ => rfl)) pa_nil)))))) pa_nil)))
  (pss_cons (ps_for PassesOwn.never rfl (pi_range2 (by rfl) T.b_range (pa_cons pe_int (pa_cons (pe_callB (x_len K) (by rfl) T.b_len (by decide +kernel) (pa_cons (pv 5) pa_nil)) pa_nil))) (pg_name (i := 6) sc_World___init.nd rfl (Or.inl rfl)) (pss_one (ps_if (pt_cmpR (x_eq K (by exact hr.units)) (pe_slice (x_sl K) (pe_ix (x_ix K) (pv 5) (pv 6) (fun _ _ => rfl)) po_none (po_some pe_int)) (pe_slice (x_sl K) (pe_ix (x_ix K) (pv 5) (pe_op op_sub (pv 6) pe_int) (fun _ _ => rfl)) po_none (po_some pe_int)) (nomark _)) (pss_one L3.ps_never) pss_nil)))
  (pss_cons (ps_if (pt_not (pt_val (pe_call D_is_whole.G (hr.mono (by decide)) (by rfl) D_is_whole.m D_is_whole.k D_is_whole.b D_is_whole.v pass0 (pa_cons (pv 2) pa_nil)))) (pss_one L3.ps_never) pss_nil)
  (pss_cons (ps_if (pt_not (pt_val (pe_call D_is_whole.G (hr.mono (by decide)) (by rfl) D_is_whole.m D_is_whole.k D_is_whole.b D_is_whole.v pass0 (pa_cons (pv 3) pa_nil)))) (pss_one L3.ps_never) pss_nil)
  (pss_cons (x_sfld K (ps_fld (pv 0) (pe_callTy (x_tup K) (by rfl) T.b_tuple (by decide +kernel) (pa_cons (pv 5) pa_nil)) rfl))
  (pss_cons (x_sfld K (ps_fld (pv 0) (pv 2) rfl))
  (pss_one (x_sfld K (ps_fld (pv 0) (pv 3) rfl)))))))))), ?_⟩
    show WN _ _ _ _ _ _ _ _ _ [.val (.adr p), .val (.lst (E.map entD)), .val (.int b), .val (.int f), .un, .un, .un] n [] _
    have hS := okEs_sort hE
    have hn := hE.n
    refine wn_assoc (wn_assoc (wn_assoc (wn_assoc (wn_preF fun H0 => ?_))))
    refine ws_seq (ws_seq (ws_seq (ws_seq ?_)))
    refine ws_if ?_
    walk_at "go"
    refine ⟨true, _, rfl, ?_⟩
    walk_at "go"
    refine itF rfl ?_
    walk_at "go"
    refine wf_we (wf_map (fun _ => .bl true) (fun _ => true) ?_)
    walk_at "go"
    refine ⟨by rw [List.length_map]; omega, fun d hd m => ?_, ?_⟩
    · obtain ⟨e, he, rfl⟩ := List.mem_map.mp hd
      have oe := hE.e e he
      walk_at "go"
      refine ⟨rfl, rfl, fun _ => ?_⟩
      walk_at "go"
      exact ⟨false, e.nm, e.ks, e.v, rfl, oe.nm, oe.ks, rfl, rfl⟩
    rw [filt_all]
    refine wa_nil ?_
    have e1 : ((E.map entD).map fun _ => D.bl true) = ((E.map fun _ => true).map D.bl) := by rw [List.map_map, List.map_map]; rfl
    rw [e1]
    refine rc_all ?_
    have e2 : (E.map fun _ => true).all id = true := by rw [List.all_map]; exact List.all_eq_true.mpr fun _ _ => rfl
    rw [e2]
    refine ⟨_, rfl, ?_⟩
    refine itF rfl ?_
    walk_at "ws1"
    walk_at "ws1"
    refine we_cb (wa_cons (wf_we (wf_map id (fun _ => true) ?_)))
    walk_at "go"
    refine ⟨by rw [List.length_map]; omega, fun d hd m => ?_, ?_⟩
    · obtain ⟨e, he, rfl⟩ := List.mem_map.mp hd
      walk_at "go"
      refine ⟨rfl, rfl, fun _ => ?_⟩
      walk_at "go"
      refine rc_tup rfl ?_
      walk_at "go"
      refine ⟨Nat.le_of_ble_eq_true rfl, ?_⟩
      exact ⟨rfl, rfl⟩
    rw [filt_all, List.map_id]
    refine wa_nil ?_
    refine rc_sort (plain_ents E) (alike_E E) (sortable_E E) (by rw [List.length_map, sizeLine_eq]; omega) (fun d hd => ?_) ?_
    · obtain ⟨e, _, rfl⟩ := List.mem_map.mp hd
      exact Nat.le_trans (depth_E e) (by decide)
    rw [sortD_ent]
    have hSl : (sortE E).length = E.length := (sortE_perm E).length_eq
    refine ws_for ?_
    walk_at "go"
    rw [List.length_map]
    refine ⟨1, _, rfl, by omega, ?_⟩
    refine ⟨fun i m ρ => m = n ∧ ∃ x4 x6, ρ = [.val (.adr p), .val (.lst (E.map entD)), .val (.int b), .val (.int f), x4, .val (.lst ((sortE E).map entD)), x6], ⟨rfl, _, _, rfl⟩, ?_, ?_⟩
    · rintro i m ρ1 d hd ⟨rfl, x4, x6, rfl⟩
      obtain ⟨hi, rfl⟩ := rangeD_get hd
      have hi1 : i + 1 < (sortE E).length := by omega
      have g1 : (sortE E)[i + 1]? = some (sortE E)[i + 1] := List.getElem?_eq_getElem hi1
      have g0 : (sortE E)[i]? = some (sortE E)[i] := List.getElem?_eq_getElem (by omega)
      generalize (sortE E)[i + 1] = y at g1
      generalize (sortE E)[i] = x at g0
      have oy := hS.e y (List.mem_of_getElem? g1)
      have ox := hS.e x (List.mem_of_getElem? g0)
      have e1 : (1 : Int) + (i : Int) = ((i + 1 : Nat) : Int) := by omega
      have e0 : ((i + 1 : Nat) : Int) - 1 = ((i : Nat) : Int) := by omega
      rw [e1]
      walk_at "go"
      refine ws_if ?_
      refine wt_B (we_op (we_sl (we_op ?_)))
      walk_at "go"
      refine r2_ix (f := entD y) (ixD_nat (by rw [List.getElem?_map, g1]; rfl)) ?_
      walk_at "go"
      rw [e0]
      refine r2_ix (f := entD x) (ixD_nat (by rw [List.getElem?_map, g0]; rfl)) ?_
      walk_at "go"
      refine r2_eqD (fit_ek oy.ft y.ks) (fit_ek ox.ft x.ks) ?_
      show ∃ b, D.bl (eqD (ekD y.nm y.ks) (ekD x.nm x.ks)) = .bl b ∧ _
      rw [eq_ek]
      refine ⟨_, rfl, decF (key_ne hS g1 g0 (by omega)) ?_⟩
      walk_at "ws1"
      exact ⟨rfl, _, _, rfl⟩
    rintro m ρ1 ⟨rfl, x4, x6, rfl⟩
    refine ws_if ?_
    walk_at "go"
    refine itF rfl ?_
    walk_at "ws1"
    refine ws_if ?_
    walk_at "go"
    refine itF rfl ?_
    walk_at "ws1"
    show WN _ _ _ _ _ _ _ _ _ [.val (.adr p), .val (.lst (E.map entD)), .val (.int b), .val (.int f), forget x4, .val (.lst ((sortE E).map entD)), forget x6] m [] _
    refine wn_seq TW.cl TW.n1 (by decide) rfl fun H0 => ?_
    walk_at "go"
    refine rc_tup rfl ?_
    refine wn_seq TW.cl TW.n2 (by show 1 < 1000; decide) rfl fun H0 => ?_
    walk_at "go"
    refine wn_st TW.cl TW.n3 (by show 2 < 1000; decide) rfl fun H0 => ?_
    walk_at "go"
    exact kk

end
end Toy
namespace Toy
open PySem L2 L3
local macro_rules | `(tactic| walk_at "we1") => `(tactic| first
  | ((with_reducible refine' we_var ?hv ?_); (case hv => rfl))
  | (with_reducible refine we_int ?_)
  | (with_reducible refine we_str ?_)
  | (with_reducible refine we_bl ?_)
  | (with_reducible refine we_non ?_)
  | ((with_reducible refine' we_dix ?hv ?_); (case hv => rfl))
  | (with_reducible refine we_op ?_)
  | ((with_reducible refine' we_dget ?hv ?_); (case hv => rfl))
  | (with_reducible refine we_count ?_)
  | (with_reducible refine we_cb ?_)
  | (with_reducible refine we_call0 ?_)
  | (with_reducible refine we_tup ?_)
  | (with_reducible refine we_lst ?_)
  | (with_reducible refine we_if ?_)
  | (with_reducible refine we_not ?_)
  | (with_reducible refine we_and ?_)
  | (with_reducible refine we_or ?_)
  | (with_reducible refine we_isN ?_)
  | (with_reducible refine we_notN ?_)
  | (with_reducible refine we_sl ?_)
  | (with_reducible refine wa_cons ?_)
  | (with_reducible refine wa_nil ?_)
  | (with_reducible refine wt_test ?_)
  | (with_reducible refine wt_B ?_)
  | (with_reducible refine wt_and ?_)
  | (with_reducible refine wt_or ?_)
  | (with_reducible refine wt_not ?_)
  | (with_reducible refine wt_yes ?_)
  | (with_reducible refine wo_none ?_)
  | (with_reducible refine wo_some ?_)
  | ((with_reducible refine' r2_ix ?hx ?_); (case hx => rfl))
  | (with_reducible refine r2_isN ?_)
  | (with_reducible refine r2_notN ?_)
  | (with_reducible refine r2_lt ?_)
  | (with_reducible refine r2_le ?_)
  | (with_reducible refine r2_gt ?_)
  | (with_reducible refine r2_ge ?_)
  | (with_reducible refine r2_sub ?_)
  | (with_reducible refine r2_addI ?_)
  | (with_reducible refine r2_eqI ?_)
  | (with_reducible refine r2_neI ?_)
  | (with_reducible refine rc_int ?_)
  | (with_reducible refine rc_abs ?_)
  | ((with_reducible refine' rc_len ?hl ?_); (case hl => rfl))
  | (with_reducible refine wi_seq ?_)
  | (with_reducible refine wi_rng1 ?_)
  | (with_reducible refine wi_rng2 ?_)
  | (with_reducible refine wi_enum ?_)
  | (refine ⟨_, rfl, ?_⟩))
local macro_rules | `(tactic| walk_at "ws1") => `(tactic| first
  | (with_reducible refine ws_seq ?_)
  | (with_reducible refine ws_set ?_)
  | (with_reducible refine ws_ret ?_)
  | (with_reducible refine ws_if ?_)
  | (with_reducible refine ws_next ?_)
  | (with_reducible refine ws_asg ?_))
local macro_rules | `(tactic| walk_at "wg1") => `(tactic| first
  | (with_reducible refine wg_name (rw_name (by decide)) ?_)
  | (with_reducible refine wg_name (fun _ _ => trivial) ?_)
  | ((with_reducible refine' wg_tup ?hl ?_); (case hl => rfl))
  | (with_reducible refine wgs_cons rw_trans ?_)
  | (with_reducible refine wgs_nil rw_refl ?_)
  | (with_reducible refine wgs_cons (fun _ _ _ _ _ => trivial) ?_)
  | (with_reducible refine wgs_nil (fun _ => trivial) ?_))
local macro_rules | `(tactic| walk_at "go") => `(tactic| repeat' (first | walk_at "we1" | walk_at "wg1"))
section
variable {P : Program} {w : World} {K : PySem.W.Frag} {mg : Str → Option Value} {base : Heap}
/-! what a world answers -/
def ansP (W : Wp) (nm : Str) (ks : List Int) : Int := match findO W.told nm ks with | some v => v | none => W.b + W.f * (wterms 0 ks).sum
theorem find_at {α : Type} {p : α → Bool} : ∀ {l : List α} {i : Nat} {a : α}, l[i]? = some a → p a = true → (∀ x ∈ l.take i, p x = false) → l.find? p = some a
  | [], i, a, h, _, _ => by simp at h
  | x :: l, 0, a, h, hp, _ => by
    simp at h
    subst h
    exact List.find?_cons_of_pos hp
  | x :: l, i + 1, a, h, hp, hn => by
    have hx : p x = false := hn x (by simp)
    rw [List.find?_cons_of_neg (by rw [hx]; decide)]
    exact find_at (i := i) (by simpa using h) hp fun y hy => hn y (by rw [List.take_succ_cons]; exact List.mem_cons_of_mem _ hy)
theorem terms_len : ∀ (ks : List Int) (i : Int), (wterms i ks).length = ks.length
  | [], _ => rfl
  | _ :: ks, i => by show (wterms (i + 1) ks).length + 1 = ks.length + 1; rw [terms_len]
theorem terms_snoc : ∀ (ks : List Int) (i k : Int), (wterms i (ks ++ [k])).sum = (wterms i ks).sum + (i + ks.length + 1) * k
  | [], i, k => by
    show (i + 1) * k + 0 = 0 + (i + ((0 : Nat) : Int) + 1) * k
    simp
  | x :: ks, i, k => by
    show (i + 1) * x + (wterms (i + 1) (ks ++ [k])).sum = ((i + 1) * x + (wterms (i + 1) ks).sum) + (i + ((ks.length + 1 : Nat) : Int) + 1) * k
    rw [terms_snoc ks (i + 1) k]
    have e : i + ((ks.length + 1 : Nat) : Int) + 1 = i + 1 + (ks.length : Int) + 1 := by omega
    rw [e]; omega
structure okP (W : Wp) : Prop where
  e : okEs W.told
  f : W.f.natAbs ≤ 2 ^ 100
def spAnsP (C : Addr) : L3.Spec := fun bag n ds Φ => ∃ (W : Wp) (nm : Str) (ks : List Int), ds = [wpD C W, .str nm, .tup (ks.map .int)] ∧ okP W ∧ fit (.str nm) = true ∧ small (2 ^ 200) ks ∧ Φ n (.int (ansP W nm ks))
abbrev s_World_answer : Stmt := inClass (top 20) 2
abbrev N_World_answer : List Str := ["self", "name", "key", "wanted", "entry", "total", "place", "number"]
theorem sc_World_answer : FnScope N_World_answer ["self", "name", "key"] (defScope s_World_answer) := ⟨rfl, rfl, rfl, by decide +kernel, rfl, by decide +kernel, by decide +kernel⟩

theorem ok_ansP {f C : Addr} {fd : FuncData} (F : Fun K "answer" "World.answer" s_World_answer f fd) (T : Txt mg) (TW : WoT K C) : FnOk P w K mg base CX0 1 f fd ["self", "name", "key"] (spD K (spAnsP C)) := by
  refine fn_D F sc_World_answer (fun bag n ds Φ h => ?_) (fun cdv A outer s H Ex O bag n ds Φ hr h => ?_)
  · obtain ⟨W, nm, ks, e, _⟩ := h
    rw [e]; rfl
  · obtain ⟨W, nm, ks, e, hW, hf, hk, kk⟩ := h
    subst e
    refine ⟨_, (pss_cons (ps_set (i := 3) sc_World_answer.nd rfl (Or.inl rfl) (pe_tup (pa_cons (pv 1) (pa_cons (pe_callTy (x_tup K) (by rfl) T.b_tuple (by decide +kernel) (pa_cons (pv 2) pa_nil)) pa_nil))))
  (pss_cons (ps_for PassesOwn.never rfl (x_seq K (x_fld K (pe_fld (pv 0) rfl))) (pg_name (i := 4) sc_World_answer.nd rfl (Or.inl rfl)) (pss_one (ps_if (pt_cmpR (x_eq K (by exact hr.units)) (pe_slice (x_sl K) (pv 4) po_none (po_some pe_int)) (pv 3) (nomark _)) (pss_one (ps_ret (pe_ix (x_ix K) (pv 4) pe_int (fun _ _ => rfl)))) pss_nil)))
  (pss_cons (ps_set (i := 5) sc_World_answer.nd rfl (Or.inl rfl) pe_int)
  (pss_cons (ps_for PassesOwn.never rfl (x_enumT K (by rfl) T.b_enumerate (pa_cons (pv 2) pa_nil)) (x_tgt K (pg_tup (by rfl) (pgs_cons (pg_name (i := 6) sc_World_answer.nd rfl (Or.inl rfl)) (pgs_cons (pg_name (i := 7) sc_World_answer.nd rfl (Or.inl rfl)) pgs_nil)))) (pss_one (ps_set (i := 5) sc_World_answer.nd rfl (Or.inl rfl) (pe_op (x_add K) (pv 5) (pe_op op_mulW (pe_op (x_add K) (pv 6) pe_int) (pv 7))))))
  (pss_one (ps_ret (pe_op (x_add K) (x_fld K (pe_fld (pv 0) rfl)) (pe_op op_mulW (x_fld K (pe_fld (pv 0) rfl)) (pv 5))))))))), ?_⟩
    show WS _ _ [.val (wpD C W), .val (.str nm), .val (.tup (ks.map .int)), .un, .un, .un, .un, .un] n _
    refine ws_cut (fun n1 ρ1 => n1 = n ∧ ρ1 = [.val (wpD C W), .val (.str nm), .val (.tup (ks.map .int)), .val (ekD nm ks), .un, .un, .un, .un]) ?_ ?_
    · refine ws_set ?_
      walk_at "go"
      refine rc_tup rfl ?_
      walk_at "go"
      exact ⟨Nat.le_of_ble_eq_true rfl, rfl, rfl⟩
    rintro n1 ρ1 ⟨rfl, rfl⟩
    refine ws_cut2 (Nx := fun n2 ρ2 => n2 = n1 ∧ findO W.told nm ks = none ∧ ∃ x4, ρ2 = [.val (wpD C W), .val (.str nm), .val (.tup (ks.map .int)), .val (ekD nm ks), x4, .un, .un, .un]) ?_ ?_
    · refine ws_for ?_
      refine wi_seq ?_
      refine we_fld TW.cl TW.n1 ?_
      walk_at "we1"
      refine ⟨_, rfl, _, rfl, ?_⟩
      refine ⟨_, rfl, ?_⟩
      refine ⟨fun i m ρ => m = n1 ∧ (∀ x ∈ W.told.take i, isE nm ks x = false) ∧ ∃ x4, ρ = [.val (wpD C W), .val (.str nm), .val (.tup (ks.map .int)), .val (ekD nm ks), x4, .un, .un, .un], ⟨rfl, (fun x hx => by simp at hx), _, rfl⟩, ?_, ?_⟩
      · rintro i m ρ1 d hd ⟨rfl, hno, x4, rfl⟩
        obtain ⟨e, hee, rfl, hm, tk⟩ := map_at hd
        have oe := hW.e.e e hm
        walk_at "go"
        walk_at "ws1"
        walk_at "go"
        refine r2_eqD (fit_ek oe.ft e.ks) (fit_ek hf ks) ?_
        show ∃ b, D.bl (eqD (ekD e.nm e.ks) (ekD nm ks)) = .bl b ∧ _
        rw [eq_ek]
        refine ⟨_, rfl, dec2 (fun h1 => ?_) (fun h1 => ?_)⟩
        · walk_at "ws1"
          walk_at "go"
          have hisE : isE nm ks e = true := by unfold isE; rw [decide_eq_true h1.1, decide_eq_true h1.2]; rfl
          have hfd : findO W.told nm ks = some e.v := by unfold findO; rw [find_at hee hisE hno]; rfl
          unfold ansP at kk
          rw [hfd] at kk
          exact kk
        · walk_at "ws1"
          refine ⟨rfl, fun x hx => ?_, .val (entD e), rfl⟩
          rw [tk] at hx
          rcases List.mem_append.mp hx with q | q
          · exact hno x q
          · rw [List.mem_singleton.mp q]
            unfold isE
            by_cases z : e.nm = nm
            · rw [decide_eq_true z, decide_eq_false fun z2 => h1 ⟨z, z2⟩]; rfl
            · rw [decide_eq_false z]; rfl
      · rintro m ρ1 ⟨rfl, hno, x4, rfl⟩
        rw [List.length_map, List.take_length] at hno
        refine ⟨rfl, ?_, x4, rfl⟩
        unfold findO
        rw [List.find?_eq_none.mpr fun x hx => by rw [hno x hx]; decide]; rfl
    rintro n2 ρ2 ⟨rfl, hnone, x4, rfl⟩
    have hk3 := hk.1
    walk_at "ws1"
    walk_at "ws1"
    walk_at "go"
    walk_at "ws1"
    refine ws_for ?_
    refine wi_enumT (wa_cons ?_)
    walk_at "we1"
    walk_at "we1"
    refine ⟨_, rfl, fun i m ρ => m = n2 ∧ ∃ x6 x7, ρ = [.val (wpD C W), .val (.str nm), .val (.tup (ks.map .int)), .val (ekD nm ks), x4, .val (.int (wterms 0 (ks.take i)).sum), x6, x7], ⟨rfl, _, _, rfl⟩, ?_, ?_⟩
    · rintro i m ρ1 d hd ⟨rfl, x6, x7, rfl⟩
      obtain ⟨d1, hd1, rfl⟩ := enumD_get hd
      obtain ⟨k, hk1, rfl, hkm, tk⟩ := map_at hd1
      have hil : i < ks.length := (List.getElem?_eq_some_iff.mp hk1).1
      have hkk := hk.2 k hkm
      walk_at "go"
      walk_at "ws1"
      walk_at "go"
      refine r2_mulW (mulW_small (by omega) (by omega)) ?_
      walk_at "go"
      refine ⟨rfl, .val (.int (0 + (i : Int))), .val (.int k), ?_⟩
      rw [tk, terms_snoc, List.length_take, Nat.min_eq_left (Nat.le_of_lt hil)]; rfl
    · rintro m ρ1 ⟨rfl, x6, x7, rfl⟩
      rw [enumD_len, List.length_map, List.take_length]
      walk_at "ws1"
      walk_at "go"
      refine we_fld TW.cl TW.n2 ?_
      walk_at "go"
      refine we_fld TW.cl TW.n3 ?_
      walk_at "go"
      have hs : (wterms 0 ks).sum.natAbs ≤ ks.length * (3 * 2 ^ 200) := terms_le (2 ^ 200) ks 0 (by omega) hk.2
      have h4 : ks.length * (3 * 2 ^ 200) ≤ 3 * (3 * 2 ^ 200) := Nat.mul_le_mul_right _ hk.1
      have hf := hW.f
      refine r2_mulW (mulW_small (by omega) (by have := Nat.le_trans hs h4; omega)) ?_
      walk_at "go"
      unfold ansP at kk
      rw [hnone] at kk
      exact kk

end
end Toy
namespace Toy
open PySem L2 L3
local macro_rules | `(tactic| walk_at "we1") => `(tactic| first
  | ((with_reducible refine' we_var ?hv ?_); (case hv => rfl))
  | (with_reducible refine we_int ?_)
  | (with_reducible refine we_str ?_)
  | (with_reducible refine we_bl ?_)
  | (with_reducible refine we_non ?_)
  | ((with_reducible refine' we_dix ?hv ?_); (case hv => rfl))
  | (with_reducible refine we_op ?_)
  | ((with_reducible refine' we_dget ?hv ?_); (case hv => rfl))
  | (with_reducible refine we_count ?_)
  | (with_reducible refine we_cb ?_)
  | (with_reducible refine we_call0 ?_)
  | (with_reducible refine we_tup ?_)
  | (with_reducible refine we_lst ?_)
  | (with_reducible refine we_if ?_)
  | (with_reducible refine we_not ?_)
  | (with_reducible refine we_and ?_)
  | (with_reducible refine we_or ?_)
  | (with_reducible refine we_isN ?_)
  | (with_reducible refine we_notN ?_)
  | (with_reducible refine we_sl ?_)
  | (with_reducible refine wa_cons ?_)
  | (with_reducible refine wa_nil ?_)
  | (with_reducible refine wt_test ?_)
  | (with_reducible refine wt_B ?_)
  | (with_reducible refine wt_and ?_)
  | (with_reducible refine wt_or ?_)
  | (with_reducible refine wt_not ?_)
  | (with_reducible refine wt_yes ?_)
  | (with_reducible refine wo_none ?_)
  | (with_reducible refine wo_some ?_)
  | ((with_reducible refine' r2_ix ?hx ?_); (case hx => rfl))
  | (with_reducible refine r2_isN ?_)
  | (with_reducible refine r2_notN ?_)
  | (with_reducible refine r2_lt ?_)
  | (with_reducible refine r2_le ?_)
  | (with_reducible refine r2_gt ?_)
  | (with_reducible refine r2_ge ?_)
  | (with_reducible refine r2_sub ?_)
  | (with_reducible refine r2_addI ?_)
  | (with_reducible refine r2_eqI ?_)
  | (with_reducible refine r2_neI ?_)
  | (with_reducible refine rc_int ?_)
  | (with_reducible refine rc_abs ?_)
  | ((with_reducible refine' rc_len ?hl ?_); (case hl => rfl))
  | (with_reducible refine wi_seq ?_)
  | (with_reducible refine wi_rng1 ?_)
  | (with_reducible refine wi_rng2 ?_)
  | (with_reducible refine wi_enum ?_)
  | (refine ⟨_, rfl, ?_⟩))
local macro_rules | `(tactic| walk_at "ws1") => `(tactic| first
  | (with_reducible refine ws_seq ?_)
  | (with_reducible refine ws_set ?_)
  | (with_reducible refine ws_ret ?_)
  | (with_reducible refine ws_if ?_)
  | (with_reducible refine ws_next ?_)
  | (with_reducible refine ws_asg ?_))
local macro_rules | `(tactic| walk_at "wg1") => `(tactic| first
  | (with_reducible refine wg_name (rw_name (by decide)) ?_)
  | (with_reducible refine wg_name (fun _ _ => trivial) ?_)
  | ((with_reducible refine' wg_tup ?hl ?_); (case hl => rfl))
  | (with_reducible refine wgs_cons rw_trans ?_)
  | (with_reducible refine wgs_nil rw_refl ?_)
  | (with_reducible refine wgs_cons (fun _ _ _ _ _ => trivial) ?_)
  | (with_reducible refine wgs_nil (fun _ => trivial) ?_))
local macro_rules | `(tactic| walk_at "go") => `(tactic| repeat' (first | walk_at "we1" | walk_at "wg1"))
section
variable {P : Program} {w : World} {K : PySem.W.Frag} {mg : Str → Option Value} {base : Heap}
/-! dicts by the names of events -/
def nmK (g : Toy.Ev → D) (es : List Toy.Ev) : List (L2.Key × D) := es.map fun e => (Sum.inr e.nm, g e)
theorem look_nm (g : Toy.Ev → D) (x : Str) : ∀ es : List Toy.Ev, lookK (nmK g es) (.inr x) = (es.find? fun e => decide (e.nm = x)).map g
  | [] => rfl
  | e :: es => by
    have ih := look_nm g x es
    unfold lookK nmK at *
    rw [List.map_cons]
    by_cases q : e.nm = x
    · rw [List.find?_cons_of_pos (by simpa using q), List.find?_cons_of_pos (by simpa using q)]; rfl
    · rw [List.find?_cons_of_neg (by simpa using q), List.find?_cons_of_neg (by simpa using q)]; exact ih
theorem put_nm {g : Toy.Ev → D} {es : List Toy.Ev} {e : Toy.Ev} (h : e.nm ∉ es.map Toy.Ev.nm) : putKD (nmK g es) (.inr e.nm) (g e) = nmK g (es ++ [e]) := by
  unfold putKD
  rw [if_neg]
  · unfold nmK; rw [List.map_append]; rfl
  · intro q
    obtain ⟨p, hp, hq⟩ := List.any_eq_true.mp q
    obtain ⟨e', he', rfl⟩ := List.mem_map.mp hp
    have : (Sum.inr e'.nm : L2.Key) = Sum.inr e.nm := of_decide_eq_true hq
    exact h (List.mem_map.mpr ⟨e', he', Sum.inr.inj this⟩)
theorem nm_nodup {es : List Toy.Ev} (h : goodEvs es) : (es.map Toy.Ev.nm).Nodup := by
  have key : ∀ k, k ≤ es.length → ((es.take k).map Toy.Ev.nm).Nodup := by
    intro k
    induction k with
    | zero => intro _; simp
    | succ k ih =>
      intro hk
      have hlt : k < es.length := hk
      have e1 : es.take (k + 1) = es.take k ++ [es[k]] := by rw [List.take_succ_eq_append_getElem hlt]
      rw [e1, List.map_append]
      have g := h.2 k es[k] (List.getElem?_eq_getElem hlt)
      refine List.nodup_append.mpr ⟨ih (by omega), by simp, fun a ha b hb => ?_⟩
      rw [List.mem_singleton.mp hb]
      exact fun e => g.2.1 (e ▸ ha)
  have := key es.length (Nat.le_refl _)
  rwa [List.take_length] at this
theorem find_nm {es : List Toy.Ev} (h : goodEvs es) {e : Toy.Ev} (he : e ∈ es) : es.find? (fun x => decide (x.nm = e.nm)) = some e := by
  cases q : es.find? (fun x => decide (x.nm = e.nm)) with
  | none => exact absurd (List.find?_eq_none.mp q e he) (by simp)
  | some x =>
    have h1 := List.mem_of_find?_eq_some q
    have h2 := List.find?_some q
    rw [goodEvs_inj h h1 he (by simpa using h2)]
theorem fit_nm {es : List Toy.Ev} (h : goodEvs es) {e : Toy.Ev} (he : e ∈ es) : fit (.str e.nm) = true ∧ fit (.str e.kind) = true ∧ e.needs.length ≤ 3 ∧ isName e.nm = true := by
  obtain ⟨i, _, g⟩ := goodEvs_mem h he
  exact ⟨g.2.2.2.2.2.2.2.2.1, g.2.2.2.2.2.2.2.2.2.1, g.2.2.2.2.2.1, g.1⟩
/-! the place of an event -/
def spPlace (CO CE : Addr) : L3.Spec := fun bag n ds Φ => ∃ (es : List Toy.Ev) (i : Nat) (e : Toy.Ev), ds = [ordD CO CE es, .str e.nm] ∧ goodEvs es ∧ es[i]? = some e ∧ Φ n (.int (i : Int))
abbrev s_Order_place : Stmt := inClass (top 16) 5
abbrev N_Order_place : List Str := ["self", "name", "place", "event"]
theorem sc_Order_place : FnScope N_Order_place ["self", "name"] (defScope s_Order_place) := ⟨rfl, rfl, rfl, by decide +kernel, rfl, by decide +kernel, by decide +kernel⟩

theorem ok_place {f CO CE : Addr} {fd : FuncData} (F : Fun K "place" "Order.place" s_Order_place f fd) (T : Txt mg) (TO : OrT K CO) (TE : EvT K CE) : FnOk P w K mg base CX0 1 f fd ["self", "name"] (spD K (spPlace CO CE)) := by
  refine fn_D F sc_Order_place (fun bag n ds Φ h => ?_) (fun cdv A outer s H Ex O bag n ds Φ hr h => ?_)
  · obtain ⟨es, i, e, he, _⟩ := h
    rw [he]; rfl
  · obtain ⟨es, i, e, he, hg, hi, kk⟩ := h
    subst he
    refine ⟨_, (pss_cons (ps_for PassesOwn.never rfl (x_enumT K (by rfl) T.b_enumerate (pa_cons (x_fld K (pe_fld (pv 0) rfl)) pa_nil)) (x_tgt K (pg_tup (by rfl) (pgs_cons (pg_name (i := 2) sc_Order_place.nd rfl (Or.inl rfl)) (pgs_cons (pg_name (i := 3) sc_Order_place.nd rfl (Or.inl rfl)) pgs_nil)))) (pss_one (ps_if (pt_cmpR (x_eq K (by exact hr.units)) (x_fld K (pe_fld (pv 3) rfl)) (pv 1) (nomark _)) (pss_one (ps_ret (pv 2))) pss_nil)))
  (pss_one L3.ps_never)), ?_⟩
    show WS _ _ [.val (ordD CO CE es), .val (.str e.nm), .un, .un] n _
    have hem := List.mem_of_getElem? hi
    walk_at "ws1"
    refine ws_for ?_
    refine wi_enumT (wa_cons ?_)
    refine we_fld TO.cl TO.n1 ?_
    walk_at "we1"
    refine ⟨_, rfl, _, rfl, ?_⟩
    walk_at "we1"
    refine ⟨_, rfl, fun k m ρ => m = n ∧ k ≤ i ∧ ∃ x2 x3, ρ = [.val (ordD CO CE es), .val (.str e.nm), x2, x3], ⟨rfl, Nat.zero_le _, _, _, rfl⟩, ?_, ?_⟩
    · rintro k m ρ1 d hd ⟨rfl, hki, x2, x3, rfl⟩
      obtain ⟨d1, hd1, rfl⟩ := enumD_get hd
      obtain ⟨x, hx, rfl, hxm, tk⟩ := map_at hd1
      have e0 : (0 : Int) + (k : Int) = (k : Int) := by omega
      rw [e0]
      walk_at "go"
      walk_at "ws1"
      walk_at "go"
      refine we_fld TE.cl TE.n1 ?_
      walk_at "go"
      refine r2_eqD (fit_nm hg hxm).1 (fit_nm hg hem).1 ?_
      rw [eq_str]
      refine ⟨_, rfl, dec2 (fun h1 => ?_) (fun h1 => ?_)⟩
      · walk_at "ws1"
        walk_at "go"
        have hik : k = i := by
          have hn := nm_nodup hg
          have h2 : (es.map Toy.Ev.nm)[k]? = some x.nm := by rw [List.getElem?_map, hx]; rfl
          have h3 : (es.map Toy.Ev.nm)[i]? = some e.nm := by rw [List.getElem?_map, hi]; rfl
          obtain ⟨q1, q2⟩ := List.getElem?_eq_some_iff.mp h2
          obtain ⟨q3, q4⟩ := List.getElem?_eq_some_iff.mp h3
          exact (List.getElem_inj hn).mp (by rw [q2, q4, h1])
        subst hik
        exact kk
      · walk_at "ws1"
        refine ⟨rfl, ?_, .val (.int (k : Int)), .val (evD CE x), rfl⟩
        have : k ≠ i := fun q => by
          subst q
          rw [hi] at hx
          cases hx
          exact h1 rfl
        omega
    · rintro m ρ1 ⟨rfl, hki, x2, x3, rfl⟩
      rw [enumD_len, List.length_map] at hki
      have : i < es.length := (List.getElem?_eq_some_iff.mp hi).1
      omega
/-! errors -/
abbrev s_BadOrder___init : Stmt := inClass (top 3) 0
abbrev N_BadOrder___init : List Str := ["self", "what", "name"]
theorem sc_BadOrder___init : FnScope N_BadOrder___init ["self", "what", "name"] (defScope s_BadOrder___init) := ⟨rfl, rfl, rfl, by decide +kernel, rfl, by decide +kernel, by decide +kernel⟩

theorem ok_xorder {f C C0 : Addr} {fd : FuncData} (F : Fun K "__init__" "BadOrder.__init__" s_BadOrder___init f fd) (A_AskedError : AskC K C0 ∧ mg "AskedError" = some (.ref C0)) (T : OexC K C) (n1 : PySem.W.findIn K (.ref C) "what" = some none) (n2 : PySem.W.findIn K (.ref C) "name" = some none) : FnOk P w K mg base CX0 1 f fd ["self", "what", "name"] (spXI C ["what", "name"]) := by
  refine F.ok sc_BadOrder___init (fun vs H Q E h => ?_) (fun cdv A outer s H vs Q E hr h => ?_)
  · obtain ⟨a, ws, rfl, hl, _⟩ := h
    simpa using hl
  · refine ⟨_, (pss_cons (ps_expr (pe_askinit (by rfl) A_AskedError.2 A_AskedError.1 (pa_cons (pv 0) (pa_cons pe_str pa_nil))))
  (pss_cons (ps_ost (pv 0) (pv 1))
  (pss_one (ps_ost (pv 0) (pv 2))))), ?_⟩
    exact xi2_go T n1 n2 h (fun _ _ h => h) _
def xUnk (x : Str) : List (Str × D) := [("name", .str x), ("what", .str "unknown")]
def spPlaceX (CO CE CB : Addr) : L3.SpecX := fun bag n ds Φ Ξ => ∃ (es : List Toy.Ev) (x : Str), ds = [ordD CO CE es, .str x] ∧ goodEvs es ∧ fit (.str x) = true ∧ x ∉ es.map Toy.Ev.nm ∧ Ξ n CB (xUnk x)
theorem ok_placeX {f CO CE : Addr} {fd : FuncData} (F : Fun K "place" "Order.place" s_Order_place f fd) (T : Txt mg) (TO : OrT K CO) (TE : EvT K CE) (X_BadOrder : Xn P w K mg base "BadOrder" ["what", "name"]) : FnOk P w K mg base (L2.CX P w) 3 f fd ["self", "name"] (spDX K (spPlaceX CO CE X_BadOrder.C)) := by
  refine fn_DX F sc_Order_place (fun bag n ds Φ Ξ h => ?_) (fun cdv A outer s H Ex O bag n ds Φ Ξ hr h hx => ?_)
  · obtain ⟨es, x, he, _⟩ := h
    rw [he]; rfl
  · obtain ⟨es, x, he, hg, fx, hno, kk⟩ := h
    subst he
    refine ⟨_, (pss_cons (ps_for (passes_of rfl) rfl (x_enumT K (by rfl) T.b_enumerate (pa_cons (x_fld K (pe_fld (pv 0) rfl)) pa_nil)) (x_tgt K (pg_tup (by rfl) (pgs_cons (pg_name (i := 2) sc_Order_place.nd rfl (Or.inl rfl)) (pgs_cons (pg_name (i := 3) sc_Order_place.nd rfl (Or.inl rfl)) pgs_nil)))) (pss_one (ps_if (pt_cmpR (x_eq K (by exact hr.units)) (x_fld K (pe_fld (pv 3) rfl)) (pv 1) (nomark _)) (pss_one (ps_ret (pv 2))) pss_nil)))
  (pss_one (ps_raise rfl (takes_of rfl rfl rfl rfl) (pmk_oex X_BadOrder.T X_BadOrder.iC X_BadOrder.tI X_BadOrder.G (hr.mono (by decide)) X_BadOrder.b .nil pass0 (by rfl) X_BadOrder.m (pa_cons pe_str (pa_cons (pv 1) pa_nil)))))), ?_⟩
    show WS _ _ [.val (ordD CO CE es), .val (.str x), .un, .un] n _
    walk_at "ws1"
    refine ws_for ?_
    refine wi_enumT (wa_cons ?_)
    refine we_fld TO.cl TO.n1 ?_
    walk_at "we1"
    refine ⟨_, rfl, _, rfl, ?_⟩
    walk_at "we1"
    refine ⟨_, rfl, fun k m ρ => m = n ∧ ∃ x2 x3, ρ = [.val (ordD CO CE es), .val (.str x), x2, x3], ⟨rfl, _, _, rfl⟩, ?_, ?_⟩
    · rintro k m ρ1 d hd ⟨rfl, x2, x3, rfl⟩
      obtain ⟨d1, hd1, rfl⟩ := enumD_get hd
      obtain ⟨y, hy, rfl, hym, tk⟩ := map_at hd1
      walk_at "go"
      walk_at "ws1"
      walk_at "go"
      refine we_fld TE.cl TE.n1 ?_
      walk_at "go"
      refine r2_eqD (fit_nm hg hym).1 fx ?_
      rw [eq_str]
      refine ⟨_, rfl, dec2 (fun h1 => ?_) (fun h1 => ?_)⟩
      · exact absurd (List.mem_map.mpr ⟨y, hym, h1⟩) hno
      · walk_at "ws1"
        exact ⟨rfl, _, _, rfl⟩
    · rintro m ρ1 ⟨rfl, x2, x3, rfl⟩
      refine ws_raise hx ?_
      walk_at "go"
      exact ⟨rfl, by decide, kk⟩
def spEvent (CO CE : Addr) : L3.Spec := fun bag n ds Φ => ∃ (es : List Toy.Ev) (e : Toy.Ev), ds = [ordD CO CE es, .str e.nm] ∧ goodEvs es ∧ e ∈ es ∧ Φ n (evD CE e)
abbrev s_Order_event : Stmt := inClass (top 16) 6
abbrev N_Order_event : List Str := ["self", "name"]
theorem sc_Order_event : FnScope N_Order_event ["self", "name"] (defScope s_Order_event) := ⟨rfl, rfl, rfl, by decide +kernel, rfl, by decide +kernel, by decide +kernel⟩

theorem ok_oevent {f CO CE : Addr} {fd : FuncData} (F : Fun K "event" "Order.event" s_Order_event f fd) (T : Txt mg) (TO : OrT K CO) (Q_place : Mt P w K mg base CO "place" 1 ["self", "name"] (spPlace CO CE)) : FnOk P w K mg base CX0 2 f fd ["self", "name"] (spD K (spEvent CO CE)) := by
  refine fn_D F sc_Order_event (fun bag n ds Φ h => ?_) (fun cdv A outer s H Ex O bag n ds Φ hr h => ?_)
  · obtain ⟨es, e, he, _⟩ := h
    rw [he]; rfl
  · obtain ⟨es, e, he, hg, hem, kk⟩ := h
    subst he
    obtain ⟨i, hi⟩ := List.getElem?_of_mem hem
    refine ⟨_, (pss_one (ps_ret (pe_ix (x_ix K) (x_fld K (pe_fld (pv 0) rfl)) (pe_meth (pv 0) Q_place.cl Q_place.me Q_place.G (hr.mono (by decide)) Q_place.b .nil pass0 (pa_cons (pv 1) pa_nil)) (fun _ _ => rfl)))), ?_⟩
    show WS _ _ [.val (ordD CO CE es), .val (.str e.nm)] n _
    walk_at "ws1"
    refine we_op (we_fld TO.cl TO.n1 ?_)
    walk_at "we1"
    refine ⟨_, rfl, _, rfl, ?_⟩
    refine we_meth (dds := []) (fun _ => .nil) ?_
    walk_at "we1"
    refine ⟨_, rfl, rfl, ?_⟩
    refine wa_cons ?_
    walk_at "we1"
    refine wa_nil ⟨es, i, e, rfl, hg, hi, ?_⟩
    exact r2_ix (f := evD CE e) (ixD_nat (by rw [List.getElem?_map, hi]; rfl)) kk
def spEventX (CO CE CB : Addr) : L3.SpecX := fun bag n ds Φ Ξ => ∃ (es : List Toy.Ev) (x : Str), ds = [ordD CO CE es, .str x] ∧ goodEvs es ∧ fit (.str x) = true ∧ x ∉ es.map Toy.Ev.nm ∧ Ξ n CB (xUnk x)
theorem ok_oeventX {f CO CE CB : Addr} {fd : FuncData} (F : Fun K "event" "Order.event" s_Order_event f fd) (T : Txt mg) (TO : OrT K CO) (S_place : Mx P w K mg base CO "place" 3 ["self", "name"] (spPlaceX CO CE CB)) : FnOk P w K mg base (L2.CX P w) 4 f fd ["self", "name"] (spDX K (spEventX CO CE CB)) := by
  refine fn_DX F sc_Order_event (fun bag n ds Φ Ξ h => ?_) (fun cdv A outer s H Ex O bag n ds Φ Ξ hr h hx => ?_)
  · obtain ⟨es, x, he, _⟩ := h
    rw [he]; rfl
  · obtain ⟨es, x, he, hg, fx, hno, kk⟩ := h
    subst he
    refine ⟨_, (pss_one (ps_ret (pe_ix (x_ix K) (x_fld K (pe_fld (pv 0) rfl)) (pe_meth (pv 0) S_place.cl S_place.me S_place.G (hr.mono (by decide)) S_place.b .nil (passes_call (takes_of rfl rfl rfl rfl) (fun _ _ _ _ h => h)) (pa_cons (pv 1) pa_nil)) (fun _ _ => rfl)))), ?_⟩
    show WS _ _ [.val (ordD CO CE es), .val (.str x)] n _
    walk_at "ws1"
    refine we_op (we_fld TO.cl TO.n1 ?_)
    walk_at "we1"
    refine ⟨_, rfl, _, rfl, ?_⟩
    refine we_methX hx (dds := []) (fun _ => .nil) ?_
    walk_at "we1"
    refine ⟨_, rfl, rfl, ?_⟩
    refine wa_cons ?_
    walk_at "we1"
    exact wa_nil ⟨es, x, rfl, hg, fx, hno, kk⟩
/-! true runs -/
def IsTrueP (W : Wp) (es : List Toy.Ev) (V : Str → Int) : Prop := ∀ e ∈ es, V e.nm = ansP W e.nm (e.needs.map V)
def runE (V : Str → Int) (es : List Toy.Ev) : List Ent := es.map fun e => ⟨e.nm, e.needs.map V, V e.nm⟩
def vlD (V : Str → Int) (e : Toy.Ev) : D := .int (V e.nm)
def kyD (V : Str → Int) (e : Toy.Ev) : D := .tup ((e.needs.map V).map .int)
structure RunOk (W : Wp) (es : List Toy.Ev) (V : Str → Int) : Prop where
  g : goodEvs es
  w : okP W
  t : IsTrueP W es V
  b : ∀ x, (V x).natAbs ≤ 2 ^ 190
theorem small_mapP {V : Str → Int} (h : ∀ x, (V x).natAbs ≤ 2 ^ 190) {l : List Str} (hl : l.length ≤ 3) : small (2 ^ 200) (l.map V) := ⟨by rw [List.length_map]; exact hl, fun k hk => by
  obtain ⟨x, _, rfl⟩ := List.mem_map.mp hk
  exact Nat.le_trans (h x) (Nat.pow_le_pow_right (by decide) (by decide))⟩
theorem find_need {es : List Toy.Ev} {i : Nat} {x : Str} (h : x ∈ (es.take i).map Toy.Ev.nm) : ∃ e, (es.take i).find? (fun e => decide (e.nm = x)) = some e ∧ e.nm = x := by
  cases q : (es.take i).find? (fun e => decide (e.nm = x)) with
  | none =>
    obtain ⟨e, he, rfl⟩ := List.mem_map.mp h
    exact absurd (List.find?_eq_none.mp q e he) (by simp)
  | some e => exact ⟨e, rfl, by simpa using List.find?_some q⟩
def spRun (CO CE CW : Addr) : L3.Spec := fun bag n ds Φ => ∃ (es : List Toy.Ev) (W : Wp) (V : Str → Int), ds = [ordD CO CE es, wpD CW W] ∧ RunOk W es V ∧ Φ n (copyD (runE V es))
abbrev s_true_run : Stmt := top 21
abbrev N_true_run : List Str := ["order", "world", "values", "entries", "event", "need", "key"]
theorem sc_true_run : FnScope N_true_run ["order", "world"] (defScope s_true_run) := ⟨rfl, rfl, rfl, by decide +kernel, rfl, by decide +kernel, by decide +kernel⟩

theorem ok_run {f CO CE CW : Addr} {fd : FuncData} (F : Fun K "true_run" "true_run" s_true_run f fd) (T : Txt mg) (TO : OrT K CO) (TE : EvT K CE) (Q_answer : Mt P w K mg base CW "answer" 1 ["self", "name", "key"] (spAnsP CW)) : FnOk P w K mg base CX0 2 f fd ["order", "world"] (spD K (spRun CO CE CW)) := by
  refine fn_D F sc_true_run (fun bag n ds Φ h => ?_) (fun cdv A outer s H Ex O bag n ds Φ hr h => ?_)
  · obtain ⟨es, W, V, e, _⟩ := h
    rw [e]; rfl
  · obtain ⟨es, W, V, e, ⟨hg, hW, hV, hb⟩, kk⟩ := h
    subst e
    refine ⟨_, (pss_cons (ps_set (i := 2) sc_true_run.nd rfl (Or.inr rfl) pe_dnewK)
  (pss_cons (ps_set (i := 3) sc_true_run.nd rfl (Or.inl rfl) (pe_lst pa_nil))
  (pss_cons (ps_for PassesOwn.never rfl (x_seq K (x_fld K (pe_fld (pv 0) rfl))) (pg_name (i := 4) sc_true_run.nd rfl (Or.inl rfl)) (pss_cons (ps_set (i := 6) sc_true_run.nd rfl (Or.inl rfl) (pe_callTy (x_tup K) (by rfl) T.b_tuple (by decide +kernel) (pa_cons (pe_lc (own := [("need", 5)]) (g := gName 5) (tt := tYes) rfl sc_true_run.nd (x_seq K (x_fld K (pe_fld (pv 4) rfl))) (blkOk_by (own := [("need", 5)]) (N := N_true_run) (sc := defScope s_true_run) (by decide +kernel)) (fun _ _ _ _ _ => (pg_name (i := 5) sc_true_run.nd rfl (Or.inl rfl))) (fun _ _ _ _ _ => pts_nil) (fun _ _ _ _ _ => (pe_dget (by exact hu1 hr) (pv 2) (pv 5) (fun _ _ => rfl)))) pa_nil)))
  (pss_cons (ps_dput (by exact hu1 hr) (pv 2) (x_fld K (pe_fld (pv 4) rfl)) (pe_meth (pv 1) Q_answer.cl Q_answer.me Q_answer.G (hr.mono (by decide)) Q_answer.b .nil pass0 (pa_cons (x_fld K (pe_fld (pv 4) rfl)) (pa_cons (pv 6) pa_nil))) rfl)
  (pss_one (ps_expr (pe_bm PySem.F.plainAttrs_list PySem.F.slot_list_append PySem.F.type_list_append mt_append (pv 3) (pa_cons (pe_tup (pa_cons (x_fld K (pe_fld (pv 4) rfl)) (pa_cons (pv 6) (pa_cons (pe_dget (by exact hu1 hr) (pv 2) (x_fld K (pe_fld (pv 4) rfl)) (fun _ _ => rfl)) pa_nil)))) pa_nil)))))))
  (pss_one (ps_ret (pe_callTy (x_tup K) (by rfl) T.b_tuple (by decide +kernel) (pa_cons (pv 3) pa_nil))))))), ?_⟩
    show WS _ _ [.val (ordD CO CE es), .val (wpD CW W), .un, .un, .un, .un, .un] n _
    have h12 := hg.1
    walk_at "ws1"
    refine ws_knew (i := 2) (Nat.le_of_ble_eq_true rfl) ?_
    walk_at "ws1"
    refine ws_own (i := 3) (Nat.le_of_ble_eq_true rfl) (wf_lst (wa_nil ⟨Nat.zero_le _, ?_⟩))
    walk_at "ws1"
    refine ws_for ?_
    refine wi_seq ?_
    refine we_fld TO.cl TO.n1 ?_
    walk_at "we1"
    refine ⟨_, rfl, _, rfl, ?_⟩
    refine ⟨_, rfl, fun i m ρ => m = n ∧ ∃ x4 x5 x6, ρ = [.val (ordD CO CE es), .val (wpD CW W), .dk (nmK (vlD V) (es.take i)), .own ((runE V (es.take i)).map entD), x4, x5, x6], ⟨rfl, _, _, _, rfl⟩, ?_, ?_⟩
    · rintro i m ρ1 d hd ⟨rfl, x4, x5, x6, rfl⟩
      obtain ⟨e, hee, rfl, hm, tk⟩ := map_at hd
      obtain ⟨g1, g2, g3, g4, g5, g6, g7, g8, g9, g10, g11⟩ := hg.2 i e hee
      walk_at "go"
      refine ws_cut (fun n1 ρ1 => n1 = m ∧ ∃ x5, ρ1 = [.val (ordD CO CE es), .val (wpD CW W), .dk (nmK (vlD V) (es.take i)), .own ((runE V (es.take i)).map entD), .val (evD CE e), x5, .val (kyD V e)]) ?_ ?_
      · walk_at "ws1"
        refine we_cb (wa_cons (wf_we (wf_map (valN V) (fun _ => true) (wi_seq ?_))))
        refine we_fld TE.cl TE.n4 ?_
        walk_at "we1"
        refine ⟨_, rfl, _, rfl, ?_⟩
        refine ⟨_, rfl, by rw [List.length_map]; omega, fun d hd m => ?_, ?_⟩
        · obtain ⟨x, hx, rfl⟩ := List.mem_map.mp hd
          walk_at "go"
          refine ⟨rfl, rfl, fun _ => ?_⟩
          obtain ⟨e', q1, q2⟩ := find_need (g7 x hx)
          refine we_kget (i := 2) rfl ?_
          walk_at "go"
          refine ⟨vlD V e', by rw [look_nm, q1]; rfl, ?_⟩
          rw [← q2]
          exact ⟨rfl, rfl⟩
        rw [filt_all, List.map_map]
        have e3 : e.needs.map (valN V ∘ D.str) = (e.needs.map V).map .int := by rw [List.map_map]; rfl
        rw [e3]
        refine wa_nil (rc_tup rfl ?_)
        exact ⟨rfl, _, rfl⟩
      rintro m1 ρ2 ⟨rfl, x5, rfl⟩
      have hput : putKD (nmK (vlD V) (es.take i)) (.inr e.nm) (.int (ansP W e.nm (e.needs.map V))) = nmK (vlD V) (es.take (i + 1)) := by
        rw [← hV e hm, tk, ← put_nm g2]; rfl
      refine ws_cut (fun n1 ρ1 => n1 = m1 ∧ ρ1 = [.val (ordD CO CE es), .val (wpD CW W), .dk (nmK (vlD V) (es.take (i + 1))), .own ((runE V (es.take i)).map entD), .val (evD CE e), x5, .val (kyD V e)]) ?_ ?_
      · refine ws_kput (i := 2) (kvs := nmK (vlD V) (es.take i)) rfl (by unfold nmK; rw [List.length_map, List.length_take]; omega) ?_
        refine we_meth (dds := []) (fun _ => .nil) ?_
        walk_at "we1"
        refine ⟨_, rfl, rfl, ?_⟩
        refine wa_cons ?_
        refine we_fld TE.cl TE.n1 ?_
        walk_at "we1"
        refine ⟨_, rfl, _, rfl, ?_⟩
        refine wa_cons ?_
        walk_at "we1"
        refine wa_nil ⟨W, e.nm, e.needs.map V, rfl, hW, g9, small_mapP hb g6, ?_⟩
        refine we_fld TE.cl TE.n1 ?_
        walk_at "we1"
        refine ⟨_, rfl, _, rfl, ?_⟩
        exact ⟨_, rfl, rfl, by rw [hput]; rfl⟩
      rintro m2 ρ3 ⟨rfl, rfl⟩
      refine ws_append (i := 3) (ds := (runE V (es.take i)).map entD) rfl ?_
      refine we_tup (wa_cons ?_)
      refine we_fld TE.cl TE.n1 ?_
      walk_at "we1"
      refine ⟨_, rfl, _, rfl, ?_⟩
      refine wa_cons ?_
      walk_at "we1"
      refine wa_cons ?_
      refine we_kget (i := 2) rfl ?_
      refine we_fld TE.cl TE.n1 ?_
      walk_at "we1"
      refine ⟨_, rfl, _, rfl, ?_⟩
      have hfd : (es.take (i + 1)).find? (fun x => decide (x.nm = e.nm)) = some e := by
        rw [tk, List.find?_append, List.find?_eq_none.mpr fun x hx => by
          have : x.nm ≠ e.nm := fun z => g2 (z ▸ List.mem_map.mpr ⟨x, hx, rfl⟩)
          simpa using this]
        rw [List.find?_cons_of_pos (by simp)]; rfl
      refine ⟨_, rfl, vlD V e, by rw [look_nm, hfd]; rfl, ?_⟩
      refine wa_nil ⟨Nat.le_of_ble_eq_true rfl, by unfold runE; rw [List.length_map, List.length_map, List.length_take, sizeLine_eq]; omega, rfl, .val (evD CE e), x5, .val (kyD V e), ?_⟩
      rw [tk]
      unfold runE
      rw [List.map_append, List.map_append]; rfl
    · rintro m ρ1 ⟨rfl, x4, x5, x6, rfl⟩
      refine ws_freeze 3 rfl ?_
      rw [List.length_map, List.take_length]
      walk_at "ws1"
      walk_at "go"
      exact rc_tup rfl kk

end
end Toy
namespace Toy
open PySem L2 L3
local macro_rules | `(tactic| walk_at "we1") => `(tactic| first
  | ((with_reducible refine' we_var ?hv ?_); (case hv => rfl))
  | (with_reducible refine we_int ?_)
  | (with_reducible refine we_str ?_)
  | (with_reducible refine we_bl ?_)
  | (with_reducible refine we_non ?_)
  | ((with_reducible refine' we_dix ?hv ?_); (case hv => rfl))
  | (with_reducible refine we_op ?_)
  | ((with_reducible refine' we_dget ?hv ?_); (case hv => rfl))
  | (with_reducible refine we_count ?_)
  | (with_reducible refine we_cb ?_)
  | (with_reducible refine we_call0 ?_)
  | (with_reducible refine we_tup ?_)
  | (with_reducible refine we_lst ?_)
  | (with_reducible refine we_if ?_)
  | (with_reducible refine we_not ?_)
  | (with_reducible refine we_and ?_)
  | (with_reducible refine we_or ?_)
  | (with_reducible refine we_isN ?_)
  | (with_reducible refine we_notN ?_)
  | (with_reducible refine we_sl ?_)
  | (with_reducible refine wa_cons ?_)
  | (with_reducible refine wa_nil ?_)
  | (with_reducible refine wt_test ?_)
  | (with_reducible refine wt_B ?_)
  | (with_reducible refine wt_and ?_)
  | (with_reducible refine wt_or ?_)
  | (with_reducible refine wt_not ?_)
  | (with_reducible refine wt_yes ?_)
  | (with_reducible refine wo_none ?_)
  | (with_reducible refine wo_some ?_)
  | ((with_reducible refine' r2_ix ?hx ?_); (case hx => rfl))
  | (with_reducible refine r2_isN ?_)
  | (with_reducible refine r2_notN ?_)
  | (with_reducible refine r2_lt ?_)
  | (with_reducible refine r2_le ?_)
  | (with_reducible refine r2_gt ?_)
  | (with_reducible refine r2_ge ?_)
  | (with_reducible refine r2_sub ?_)
  | (with_reducible refine r2_addI ?_)
  | (with_reducible refine r2_eqI ?_)
  | (with_reducible refine r2_neI ?_)
  | (with_reducible refine rc_int ?_)
  | (with_reducible refine rc_abs ?_)
  | ((with_reducible refine' rc_len ?hl ?_); (case hl => rfl))
  | (with_reducible refine wi_seq ?_)
  | (with_reducible refine wi_rng1 ?_)
  | (with_reducible refine wi_rng2 ?_)
  | (with_reducible refine wi_enum ?_)
  | (refine ⟨_, rfl, ?_⟩))
local macro_rules | `(tactic| walk_at "ws1") => `(tactic| first
  | (with_reducible refine ws_seq ?_)
  | (with_reducible refine ws_set ?_)
  | (with_reducible refine ws_ret ?_)
  | (with_reducible refine ws_if ?_)
  | (with_reducible refine ws_next ?_)
  | (with_reducible refine ws_asg ?_))
local macro_rules | `(tactic| walk_at "wg1") => `(tactic| first
  | (with_reducible refine wg_name (rw_name (by decide)) ?_)
  | (with_reducible refine wg_name (fun _ _ => trivial) ?_)
  | ((with_reducible refine' wg_tup ?hl ?_); (case hl => rfl))
  | (with_reducible refine wgs_cons rw_trans ?_)
  | (with_reducible refine wgs_nil rw_refl ?_)
  | (with_reducible refine wgs_cons (fun _ _ _ _ _ => trivial) ?_)
  | (with_reducible refine wgs_nil (fun _ => trivial) ?_))
local macro_rules | `(tactic| walk_at "go") => `(tactic| repeat' (first | walk_at "we1" | walk_at "wg1"))
section
variable {P : Program} {w : World} {K : PySem.W.Frag} {mg : Str → Option Value} {base : Heap}
/-! true keys -/
def spKeys (CO CE CW : Addr) : L3.Spec := fun bag n ds Φ => ∃ (es : List Toy.Ev) (W : Wp) (V : Str → Int), ds = [ordD CO CE es, wpD CW W] ∧ RunOk W es V ∧ Φ n (.dct (nmK (kyD V) es))
abbrev s_true_keys : Stmt := top 22
abbrev N_true_keys : List Str := ["order", "world", "entry"]
theorem sc_true_keys : FnScope N_true_keys ["order", "world"] (defScope s_true_keys) := ⟨rfl, rfl, rfl, by decide +kernel, rfl, by decide +kernel, by decide +kernel⟩

theorem ok_keys {f CO CE CW : Addr} {fd : FuncData} (F : Fun K "true_keys" "true_keys" s_true_keys f fd) (T : Txt mg) (D_true_run : Dn P w K mg base "true_run" 2 ["order", "world"] [] [] (spRun CO CE CW)) : FnOk P w K mg base CX0 3 f fd ["order", "world"] (spD K (spKeys CO CE CW)) := by
  refine fn_D F sc_true_keys (fun bag n ds Φ h => ?_) (fun cdv A outer s H Ex O bag n ds Φ hr h => ?_)
  · obtain ⟨es, W, V, e, _⟩ := h
    rw [e]; rfl
  · obtain ⟨es, W, V, e, hR, kk⟩ := h
    subst e
    refine ⟨_, (pss_one (ps_ret (pe_dc (own := [("entry", 2)]) (g := gName 2) (tt := tYes) rfl sc_true_keys.nd (x_seq K (pe_call D_true_run.G (hr.mono (by decide)) (by rfl) D_true_run.m D_true_run.k D_true_run.b D_true_run.v pass0 (pa_cons (pv 0) (pa_cons (pv 1) pa_nil)))) (blkOk_by (own := [("entry", 2)]) (N := N_true_keys) (sc := defScope s_true_keys) (by decide +kernel)) (fun _ _ _ _ _ => (pg_name (i := 2) sc_true_keys.nd rfl (Or.inl rfl))) (fun _ _ _ _ _ => pts_nil) (fun _ _ _ _ _ => (pe_ix (x_ix K) (pv 2) pe_int (fun _ _ => rfl))) (fun _ _ _ _ _ => (pe_ix (x_ix K) (pv 2) pe_int (fun _ _ => rfl)))))), ?_⟩
    show WS _ _ [.val (ordD CO CE es), .val (wpD CW W), .un] n _
    have hg := hR.g
    have h12 := hg.1
    walk_at "ws1"
    refine we_dc (wi_seq ?_)
    walk_at "go"
    refine ⟨es, W, V, rfl, hR, ?_⟩
    refine ⟨_, rfl, fun k m acc => m = n ∧ acc = nmK (kyD V) (es.take k), ⟨rfl, rfl⟩, fun k m acc d hd ⟨e1, e2⟩ => ?_, fun m acc ⟨e1, e2⟩ => ?_⟩
    · subst e1; subst e2
      unfold runE at hd
      rw [List.map_map] at hd
      obtain ⟨e, hee, rfl, hm, tk⟩ := map_at hd
      obtain ⟨g1, g2, g3, g4, g5, g6, g7, g8, g9, g10, g11⟩ := hg.2 k e hee
      walk_at "go"
      refine itT rfl ?_
      walk_at "go"
      refine ⟨.inr e.nm, rfl, by unfold nmK; rw [List.length_map, List.length_take, sizeLine_eq]; omega, rfl, ?_⟩
      rw [tk, ← put_nm g2]; rfl
    · subst e1; subst e2
      unfold runE
      rw [List.length_map, List.length_map, List.take_length]
      exact kk
/-! asks -/
structure Ask where
  beat : Int
  at_ : Int
  nm : Str
  ks : List Int
  v : Int
def askD (a : Ask) : D := .tup [.int a.beat, .int a.at_, .str a.nm, .tup (a.ks.map .int), .int a.v]
/-- the true key of an action -/
def actK (es : List Toy.Ev) (V : Str → Int) (nm : Str) : Option (List Int) := (es.find? fun e => decide (e.nm = nm)).bind fun e => if e.kind = "action" then some (e.needs.map V) else none
def falseF (es : List Toy.Ev) (V : Str → Int) : List Str → Nat → List Ask → Option Nat
  | _, _, [] => none
  | done, i, a :: l => match actK es V a.nm with
    | some ks => if a.nm ∈ done ∨ a.ks ≠ ks then some i else falseF es V (done ++ [a.nm]) (i + 1) l
    | none => falseF es V done (i + 1) l
def optN : Option Nat → D
  | none => .non
  | some i => .int (i : Int)
def spFalse (CO CE CW : Addr) : L3.Spec := fun bag n ds Φ => ∃ (es : List Toy.Ev) (W : Wp) (V : Str → Int) (asks : List Ask), ds = [ordD CO CE es, wpD CW W, .lst (asks.map askD)] ∧ RunOk W es V ∧ asks.length ≤ 1000 ∧ (∀ a ∈ asks, fit (.str a.nm) = true) ∧ Φ n (optN (falseF es V [] 0 asks))
theorem drop_at {α : Type} {l : List α} {i : Nat} {a : α} (h : l[i]? = some a) : l.drop i = a :: l.drop (i + 1) := by
  obtain ⟨h1, h2⟩ := List.getElem?_eq_some_iff.mp h
  rw [← h2]
  exact List.drop_eq_getElem_cons h1
abbrev s_false_ask : Stmt := top 23
abbrev N_false_ask : List Str := ["order", "world", "asks", "keys", "done", "place", "ask", "name"]
theorem sc_false_ask : FnScope N_false_ask ["order", "world", "asks"] (defScope s_false_ask) := ⟨rfl, rfl, rfl, by decide +kernel, rfl, by decide +kernel, by decide +kernel⟩

theorem ok_false {f CO CE CW : Addr} {fd : FuncData} (F : Fun K "false_ask" "false_ask" s_false_ask f fd) (T : Txt mg) (TE : EvT K CE) (Q_event : Mt P w K mg base CO "event" 2 ["self", "name"] (spEvent CO CE)) (D_true_keys : Dn P w K mg base "true_keys" 3 ["order", "world"] [] [] (spKeys CO CE CW)) : FnOk P w K mg base CX0 4 f fd ["order", "world", "asks"] (spD K (spFalse CO CE CW)) := by
  refine fn_D F sc_false_ask (fun bag n ds Φ h => ?_) (fun cdv A outer s H Ex O bag n ds Φ hr h => ?_)
  · obtain ⟨es, W, V, asks, e, _⟩ := h
    rw [e]; rfl
  · obtain ⟨es, W, V, asks, e, hR, hl, hf, kk⟩ := h
    subst e
    refine ⟨_, (pss_cons (ps_set (i := 3) sc_false_ask.nd rfl (Or.inl rfl) (pe_call D_true_keys.G (hr.mono (by decide)) (by rfl) D_true_keys.m D_true_keys.k D_true_keys.b D_true_keys.v pass0 (pa_cons (pv 0) (pa_cons (pv 1) pa_nil))))
  (pss_cons (ps_set (i := 4) sc_false_ask.nd rfl (Or.inl rfl) (pe_lst pa_nil))
  (pss_cons (ps_for PassesOwn.never rfl (x_enum K (by rfl) T.b_enumerate (pa_cons (pv 2) pa_nil)) (x_tgt K (pg_tup (by rfl) (pgs_cons (pg_name (i := 5) sc_false_ask.nd rfl (Or.inl rfl)) (pgs_cons (pg_name (i := 6) sc_false_ask.nd rfl (Or.inl rfl)) pgs_nil)))) (pss_cons (ps_set (i := 7) sc_false_ask.nd rfl (Or.inl rfl) (pe_ix (x_ix K) (pv 6) pe_int (fun _ _ => rfl)))
  (pss_one (ps_if (PW.pt (pw_and (pt_cmp (pc_din (by exact hu1 hr) (pv 7) (pv 3))) (pw_and1 (pt_cmpR (x_eq K (by exact hr.units)) (x_fld K (pe_fld (pe_meth (pv 0) Q_event.cl Q_event.me Q_event.G (hr.mono (by decide)) Q_event.b .nil pass0 (pa_cons (pv 7) pa_nil)) rfl)) pe_str (nomark _))))) (pss_cons (ps_if (PW.pt (pw_or (pt_cmpR (x_in K (by exact hu65 hr)) (pv 7) (pv 4) (by with_unfolding_all rfl)) (pw_or1 (pt_cmpR (x_ne K (by exact hr.units)) (pe_callTy (x_tup K) (by rfl) T.b_tuple (by decide +kernel) (pa_cons (pe_ix (x_ix K) (pv 6) pe_int (fun _ _ => rfl)) pa_nil)) (pe_dget (by exact hu1 hr) (pv 3) (pv 7) (fun _ _ => rfl)) (nomark _))))) (pss_one (ps_ret (pv 5))) pss_nil)
  (pss_one (ps_expr (pe_bm PySem.F.plainAttrs_list PySem.F.slot_list_append PySem.F.type_list_append mt_append (pv 4) (pa_cons (pv 7) pa_nil))))) pss_nil))))
  (pss_one (ps_ret pe_non))))), ?_⟩
    show WS _ _ [.val (ordD CO CE es), .val (wpD CW W), .val (.lst (asks.map askD)), .un, .un, .un, .un, .un] n _
    have hg := hR.g
    have h12 := hg.1
    refine ws_cut (fun n1 ρ1 => n1 = n ∧ ρ1 = [.val (ordD CO CE es), .val (wpD CW W), .val (.lst (asks.map askD)), .val (.dct (nmK (kyD V) es)), .un, .un, .un, .un]) ?_ ?_
    · walk_at "ws1"
      walk_at "go"
      exact ⟨es, W, V, rfl, hR, rfl, rfl⟩
    rintro n1 ρ1 ⟨rfl, rfl⟩
    walk_at "ws1"
    refine ws_own (i := 4) (Nat.le_of_ble_eq_true rfl) (wf_lst (wa_nil ⟨Nat.zero_le _, ?_⟩))
    walk_at "ws1"
    refine ws_for ?_
    refine wi_enum (wa_cons ?_)
    walk_at "we1"
    walk_at "we1"
    refine ⟨_, rfl, fun i m ρ => m = n1 ∧ ∃ (done : List Str) (x5 x6 x7 : SD), done.length ≤ i ∧ (∀ x ∈ done, fit (.str x) = true) ∧ falseF es V [] 0 asks = falseF es V done i (asks.drop i) ∧ ρ = [.val (ordD CO CE es), .val (wpD CW W), .val (.lst (asks.map askD)), .val (.dct (nmK (kyD V) es)), .own (done.map .str), x5, x6, x7], ⟨rfl, [], _, _, _, Nat.zero_le _, (fun x hx => nomatch hx), rfl, rfl⟩, ?_, ?_⟩
    · rintro i m ρ1 d hd ⟨rfl, done, x5, x6, x7, hdl, hdf, hF, rfl⟩
      obtain ⟨d1, hd1, rfl⟩ := enumD_get hd
      obtain ⟨a, ha, rfl, hm, tk⟩ := map_at hd1
      have hi : i < asks.length := (List.getElem?_eq_some_iff.mp ha).1
      have fa := hf a hm
      rw [drop_at ha] at hF
      have e0 : (0 : Int) + (i : Int) = (i : Int) := by omega
      rw [e0]
      walk_at "go"
      refine ws_cut (fun n1 ρ1 => n1 = m ∧ ρ1 = [.val (ordD CO CE es), .val (wpD CW W), .val (.lst (asks.map askD)), .val (.dct (nmK (kyD V) es)), .own (done.map .str), .val (.int (i : Int)), .val (askD a), .val (.str a.nm)]) ?_ ?_
      · walk_at "ws1"
        walk_at "go"
        exact ⟨rfl, rfl⟩
      rintro n2 ρ2 ⟨rfl, rfl⟩
      have stay : falseF es V [] 0 asks = falseF es V done (i + 1) (asks.drop (i + 1)) → (fun (i' m' : Nat) (ρ' : List SD) => m' = n2 ∧ ∃ (done : List Str) (x5 x6 x7 : SD), done.length ≤ i' ∧ (∀ x ∈ done, fit (.str x) = true) ∧ falseF es V [] 0 asks = falseF es V done i' (asks.drop i') ∧ ρ' = [.val (ordD CO CE es), .val (wpD CW W), .val (.lst (asks.map askD)), .val (.dct (nmK (kyD V) es)), .own (done.map .str), x5, x6, x7]) (i + 1) n2 [.val (ordD CO CE es), .val (wpD CW W), .val (.lst (asks.map askD)), .val (.dct (nmK (kyD V) es)), .own (done.map .str), .val (.int (i : Int)), .val (askD a), .val (.str a.nm)] := fun h => ⟨rfl, done, _, _, _, by omega, hdf, h, rfl⟩
      refine ws_if ?_
      refine wt_and (wt_test ?_)
      refine we_din ?_
      walk_at "we1"
      walk_at "we1"
      refine ⟨_, _, rfl, rfl, _, rfl, ?_⟩
      rw [look_nm]
      cases hfd : es.find? (fun e => decide (e.nm = a.nm)) with
      | none =>
        refine itF rfl (itF rfl ?_)
        walk_at "ws1"
        refine stay (hF.trans ?_)
        have : actK es V a.nm = none := by unfold actK; rw [hfd]; rfl
        show (match actK es V a.nm with | some ks => if a.nm ∈ done ∨ a.ks ≠ ks then some i else falseF es V (done ++ [a.nm]) (i + 1) (asks.drop (i + 1)) | none => falseF es V done (i + 1) (asks.drop (i + 1))) = _
        rw [this]
      | some e =>
        have hem := List.mem_of_find?_eq_some hfd
        have hen : e.nm = a.nm := by simpa using List.find?_some hfd
        have fe := fit_nm hg hem
        refine itT rfl ?_
        refine wt_test ?_
        refine we_op (we_fld TE.cl TE.n3 (we_meth (dds := []) (fun _ => .nil) ?_))
        walk_at "we1"
        refine ⟨_, rfl, rfl, ?_⟩
        refine wa_cons ?_
        walk_at "we1"
        refine wa_nil ⟨es, e, by rw [hen]; rfl, hg, hem, ?_⟩
        refine ⟨_, rfl, _, rfl, ?_⟩
        walk_at "we1"
        refine r2_eqD fe.2.1 (by decide +kernel) ?_
        rw [eq_str]
        refine ⟨_, rfl, dec2 (fun h1 => ?_) (fun h1 => ?_)⟩
        · have hact : actK es V a.nm = some (e.needs.map V) := by unfold actK; rw [hfd]; exact if_pos h1
          have hF' : falseF es V [] 0 asks = if a.nm ∈ done ∨ a.ks ≠ e.needs.map V then some i else falseF es V (done ++ [a.nm]) (i + 1) (asks.drop (i + 1)) := by
            rw [hF]
            show (match actK es V a.nm with | some ks => if a.nm ∈ done ∨ a.ks ≠ ks then some i else falseF es V (done ++ [a.nm]) (i + 1) (asks.drop (i + 1)) | none => falseF es V done (i + 1) (asks.drop (i + 1))) = _
            rw [hact]
          have found : (a.nm ∈ done ∨ a.ks ≠ e.needs.map V) → Φ n2 (.int (i : Int)) := fun h => by
            rw [hF', if_pos h] at kk
            exact kk
          refine ws_seq (ws_if (wt_or (wt_look 4 rfl ?_)))
          walk_at "go"
          refine r2_in rfl fa (fit_strs hdf) ?_
          rw [inD_str]
          refine ⟨_, rfl, dec2 (fun h2 => ?_) (fun h2 => ?_)⟩
          · refine itT rfl ?_
            walk_at "ws1"
            walk_at "go"
            exact found (.inl h2)
          · walk_at "go"
            refine rc_tup rfl ?_
            refine we_dget1 ?_
            walk_at "we1"
            refine ⟨_, rfl, ?_⟩
            walk_at "we1"
            refine ⟨_, rfl, kyD V e, by rw [look_nm, hfd]; rfl, ?_⟩
            refine r2_neD (fit_ints _) (fit_ints _) ?_
            rw [show eqD (.tup (a.ks.map .int)) (kyD V e) = decide (a.ks = e.needs.map V) from eq_tupI _ _]
            refine ⟨_, rfl, decN (fun h3 => ?_) (fun h3 => ?_)⟩
            · walk_at "ws1"
              walk_at "go"
              exact found (.inr h3)
            · walk_at "ws1"
              refine ws_append (i := 4) (ds := done.map .str) rfl ?_
              walk_at "go"
              refine ⟨by rw [List.length_map, sizeLine_eq]; omega, rfl, done ++ [a.nm], .val (.int (i : Int)), .val (askD a), .val (.str a.nm), by rw [List.length_append]; show _ + 1 ≤ _; omega, fun x hx => ?_, ?_, ?_⟩
              · rcases List.mem_append.mp hx with q | q
                · exact hdf x q
                · rw [List.mem_singleton.mp q]; exact fa
              · rw [hF', if_neg (fun q => q.elim h2 fun z => z h3)]
              · rw [List.map_append]; rfl
        · walk_at "ws1"
          refine stay (hF.trans ?_)
          have : actK es V a.nm = none := by unfold actK; rw [hfd]; exact if_neg h1
          show (match actK es V a.nm with | some ks => if a.nm ∈ done ∨ a.ks ≠ ks then some i else falseF es V (done ++ [a.nm]) (i + 1) (asks.drop (i + 1)) | none => falseF es V done (i + 1) (asks.drop (i + 1))) = _
          rw [this]
    · rintro m ρ1 ⟨rfl, done, x5, x6, x7, hdl, hdf, hF, rfl⟩
      rw [enumD_len, List.length_map, List.drop_length] at hF
      walk_at "ws1"
      walk_at "go"
      rw [hF] at kk
      exact kk
/-! the first true ask -/
def beatF (asks : List Ask) (nm : Str) (ks : List Int) : Option Int := (asks.find? fun a => decide (a.nm = nm ∧ a.ks = ks)).map (·.beat)
def optI : Option Int → D
  | none => .non
  | some i => .int i
def spBeat (CO CE CW : Addr) : L3.Spec := fun bag n ds Φ => ∃ (es : List Toy.Ev) (W : Wp) (V : Str → Int) (asks : List Ask) (e : Toy.Ev), ds = [ordD CO CE es, wpD CW W, .lst (asks.map askD), .str e.nm] ∧ RunOk W es V ∧ e ∈ es ∧ asks.length ≤ 1000 ∧ (∀ a ∈ asks, fit (.str a.nm) = true) ∧ Φ n (optI (beatF asks e.nm (e.needs.map V)))
abbrev s_true_beat : Stmt := top 24
abbrev N_true_beat : List Str := ["order", "world", "asks", "name", "key", "ask"]
theorem sc_true_beat : FnScope N_true_beat ["order", "world", "asks", "name"] (defScope s_true_beat) := ⟨rfl, rfl, rfl, by decide +kernel, rfl, by decide +kernel, by decide +kernel⟩

theorem ok_beat {f CO CE CW : Addr} {fd : FuncData} (F : Fun K "true_beat" "true_beat" s_true_beat f fd) (T : Txt mg) (TE : EvT K CE) (Q_event : Mt P w K mg base CO "event" 2 ["self", "name"] (spEvent CO CE)) (D_true_keys : Dn P w K mg base "true_keys" 3 ["order", "world"] [] [] (spKeys CO CE CW)) : FnOk P w K mg base CX0 4 f fd ["order", "world", "asks", "name"] (spD K (spBeat CO CE CW)) := by
  refine fn_D F sc_true_beat (fun bag n ds Φ h => ?_) (fun cdv A outer s H Ex O bag n ds Φ hr h => ?_)
  · obtain ⟨es, W, V, asks, e, he, _⟩ := h
    rw [he]; rfl
  · obtain ⟨es, W, V, asks, e, he, hR, hem, hl, hf, kk⟩ := h
    subst he
    refine ⟨_, (pss_cons (ps_set (i := 4) sc_true_beat.nd rfl (Or.inl rfl) (pe_dget (by exact hu1 hr) (pe_call D_true_keys.G (hr.mono (by decide)) (by rfl) D_true_keys.m D_true_keys.k D_true_keys.b D_true_keys.v pass0 (pa_cons (pv 0) (pa_cons (pv 1) pa_nil))) (x_fld K (pe_fld (pe_meth (pv 0) Q_event.cl Q_event.me Q_event.G (hr.mono (by decide)) Q_event.b .nil pass0 (pa_cons (pv 3) pa_nil)) rfl)) (fun _ _ => rfl)))
  (pss_cons (ps_for PassesOwn.never rfl (x_seq K (pv 2)) (pg_name (i := 5) sc_true_beat.nd rfl (Or.inl rfl)) (pss_one (ps_if (PW.pt (pw_and (pt_cmpR (x_eq K (by exact hr.units)) (pe_ix (x_ix K) (pv 5) pe_int (fun _ _ => rfl)) (pv 3) (nomark _)) (pw_and1 (pt_cmpR (x_eq K (by exact hr.units)) (pe_callTy (x_tup K) (by rfl) T.b_tuple (by decide +kernel) (pa_cons (pe_ix (x_ix K) (pv 5) pe_int (fun _ _ => rfl)) pa_nil)) (pv 4) (nomark _))))) (pss_one (ps_ret (pe_ix (x_ix K) (pv 5) pe_int (fun _ _ => rfl)))) pss_nil)))
  (pss_one (ps_ret pe_non)))), ?_⟩
    show WS _ _ [.val (ordD CO CE es), .val (wpD CW W), .val (.lst (asks.map askD)), .val (.str e.nm), .un, .un] n _
    have hg := hR.g
    have fe := fit_nm hg hem
    refine ws_cut (fun n1 ρ1 => n1 = n ∧ ρ1 = [.val (ordD CO CE es), .val (wpD CW W), .val (.lst (asks.map askD)), .val (.str e.nm), .val (kyD V e), .un]) ?_ ?_
    · refine ws_set (we_dget1 ?_)
      walk_at "go"
      refine ⟨es, W, V, rfl, hR, ?_⟩
      refine ⟨_, rfl, ?_⟩
      refine we_fld TE.cl TE.n1 (we_meth (dds := []) (fun _ => .nil) ?_)
      walk_at "we1"
      refine ⟨_, rfl, rfl, ?_⟩
      refine wa_cons ?_
      walk_at "we1"
      refine wa_nil ⟨es, e, rfl, hg, hem, ?_⟩
      refine ⟨_, rfl, _, rfl, ?_⟩
      exact ⟨_, rfl, kyD V e, by rw [look_nm, find_nm hg hem]; rfl, rfl, rfl⟩
    rintro n1 ρ1 ⟨rfl, rfl⟩
    walk_at "ws1"
    refine ws_for ?_
    refine wi_seq ?_
    walk_at "we1"
    refine ⟨_, rfl, fun i m ρ => m = n1 ∧ (∀ a ∈ asks.take i, ¬ (a.nm = e.nm ∧ a.ks = e.needs.map V)) ∧ ∃ x5, ρ = [.val (ordD CO CE es), .val (wpD CW W), .val (.lst (asks.map askD)), .val (.str e.nm), .val (kyD V e), x5], ⟨rfl, (fun a ha => by simp at ha), _, rfl⟩, ?_, ?_⟩
    · rintro i m ρ1 d hd ⟨rfl, hno, x5, rfl⟩
      obtain ⟨a, ha, rfl, hm, tk⟩ := map_at hd
      have fa := hf a hm
      have next : ¬ (a.nm = e.nm ∧ a.ks = e.needs.map V) → (fun (i' m' : Nat) (ρ' : List SD) => m' = m ∧ (∀ a ∈ asks.take i', ¬ (a.nm = e.nm ∧ a.ks = e.needs.map V)) ∧ ∃ x5, ρ' = [.val (ordD CO CE es), .val (wpD CW W), .val (.lst (asks.map askD)), .val (.str e.nm), .val (kyD V e), x5]) (i + 1) m [.val (ordD CO CE es), .val (wpD CW W), .val (.lst (asks.map askD)), .val (.str e.nm), .val (kyD V e), .val (askD a)] := fun h => ⟨rfl, fun x hx => by
        rw [tk] at hx
        rcases List.mem_append.mp hx with q | q
        · exact hno x q
        · rw [List.mem_singleton.mp q]; exact h, _, rfl⟩
      walk_at "wg1"
      walk_at "ws1"
      walk_at "go"
      refine r2_eqD fa fe.1 ?_
      rw [eq_str]
      refine ⟨_, rfl, dec2 (fun h1 => ?_) (fun h1 => ?_)⟩
      · walk_at "go"
        refine rc_tup rfl ?_
        walk_at "go"
        refine r2_eqD (fit_ints _) (fit_ints _) ?_
        rw [show eqD (.tup (a.ks.map .int)) (kyD V e) = decide (a.ks = e.needs.map V) from eq_tupI _ _]
        refine ⟨_, rfl, dec2 (fun h2 => ?_) (fun h2 => ?_)⟩
        · walk_at "ws1"
          walk_at "go"
          have : beatF asks e.nm (e.needs.map V) = some a.beat := by
            unfold beatF
            rw [find_at ha (decide_eq_true ⟨h1, h2⟩) fun x hx => decide_eq_false (hno x hx)]; rfl
          rw [this] at kk
          exact kk
        · walk_at "ws1"
          exact next fun q => h2 q.2
      · refine itF rfl ?_
        walk_at "ws1"
        exact next fun q => h1 q.1
    · rintro m ρ1 ⟨rfl, hno, x5, rfl⟩
      rw [List.length_map, List.take_length] at hno
      walk_at "ws1"
      walk_at "go"
      have : beatF asks e.nm (e.needs.map V) = none := by
        unfold beatF
        rw [List.find?_eq_none.mpr fun x hx => by rw [decide_eq_false (hno x hx)]; decide]; rfl
      rw [this] at kk
      exact kk
/-! .. of a name that no event has -/
def spBeatX (CO CE CW CB : Addr) : L3.SpecX := fun bag n ds Φ Ξ => ∃ (es : List Toy.Ev) (W : Wp) (V : Str → Int) (asks : List Ask) (x : Str), ds = [ordD CO CE es, wpD CW W, .lst (asks.map askD), .str x] ∧ RunOk W es V ∧ fit (.str x) = true ∧ x ∉ es.map Toy.Ev.nm ∧ Ξ n CB (xUnk x)
theorem ok_beatX {f CO CE CW CB : Addr} {fd : FuncData} (F : Fun K "true_beat" "true_beat" s_true_beat f fd) (T : Txt mg) (TE : EvT K CE) (S_event : Mx P w K mg base CO "event" 4 ["self", "name"] (spEventX CO CE CB)) (D_true_keys : Dn P w K mg base "true_keys" 3 ["order", "world"] [] [] (spKeys CO CE CW)) : FnOk P w K mg base (L2.CX P w) 5 f fd ["order", "world", "asks", "name"] (spDX K (spBeatX CO CE CW CB)) := by
  refine fn_DX F sc_true_beat (fun bag n ds Φ Ξ h => ?_) (fun cdv A outer s H Ex O bag n ds Φ Ξ hr h hx => ?_)
  · obtain ⟨es, W, V, asks, x, he, _⟩ := h
    rw [he]; rfl
  · obtain ⟨es, W, V, asks, x, he, hR, fx, hno, kk⟩ := h
    subst he
    refine ⟨_, (pss_cons (ps_set (i := 4) sc_true_beat.nd rfl (Or.inl rfl) (pe_dget (by exact hu1 hr) (pe_call D_true_keys.G (hr.mono (by decide)) (by rfl) D_true_keys.m D_true_keys.k D_true_keys.b D_true_keys.v pass0 (pa_cons (pv 0) (pa_cons (pv 1) pa_nil))) (x_fld K (pe_fld (pe_meth (pv 0) S_event.cl S_event.me S_event.G (hr.mono (by decide)) S_event.b .nil (passes_call (takes_of rfl rfl rfl rfl) (fun _ _ _ _ h => h)) (pa_cons (pv 3) pa_nil)) rfl)) (fun _ _ => rfl)))
  (pss_cons (ps_for (passes_of rfl) rfl (x_seq K (pv 2)) (pg_name (i := 5) sc_true_beat.nd rfl (Or.inl rfl)) (pss_one (ps_if (PW.pt (pw_and (pt_cmpR (x_eq K (by exact hr.units)) (pe_ix (x_ix K) (pv 5) pe_int (fun _ _ => rfl)) (pv 3) (nomark _)) (pw_and1 (pt_cmpR (x_eq K (by exact hr.units)) (pe_callTy (x_tup K) (by rfl) T.b_tuple (by decide +kernel) (pa_cons (pe_ix (x_ix K) (pv 5) pe_int (fun _ _ => rfl)) pa_nil)) (pv 4) (nomark _))))) (pss_one (ps_ret (pe_ix (x_ix K) (pv 5) pe_int (fun _ _ => rfl)))) pss_nil)))
  (pss_one (ps_ret pe_non)))), ?_⟩
    show WS _ _ [.val (ordD CO CE es), .val (wpD CW W), .val (.lst (asks.map askD)), .val (.str x), .un, .un] n _
    have hg := hR.g
    refine ws_seq (ws_set (we_dget1 ?_))
    walk_at "go"
    refine ⟨es, W, V, rfl, hR, ?_⟩
    refine ⟨_, rfl, ?_⟩
    refine we_fld TE.cl TE.n1 (we_methX hx (dds := []) (fun _ => .nil) ?_)
    walk_at "we1"
    refine ⟨_, rfl, rfl, ?_⟩
    refine wa_cons ?_
    walk_at "we1"
    exact wa_nil ⟨es, x, rfl, hg, fx, hno, kk⟩

end
end Toy
namespace L3
open PySem L2
section
variable {c : Ctx} {ρ : List SD} {n : Nat} {te : TE} {Φ : Nat → List D → Prop}
/-- list(x), one's own -/
theorem wf_list1 (h : WE c te ρ n fun n1 d => ∃ ds, seqD d = some ds ∧ Φ n1 ds) : WF c (tCB (rListD c.K) (tCons te tNil)) ρ n Φ := fun P L σ H Q E q => by
  refine h P L σ H _ E fun x d n1 H1 s1 j1 r1 ⟨ds, e, k⟩ => ?_
  have E1 := E.step s1 j1
  cases r1 with
  | @lst a ys _ hs ha =>
    cases e
    exact ⟨a, ys, rfl, .inl (.inl (same_rd same_hid hs)), fun l hl => q l ys _ n1 _ (s1.trans (E1.newT hl).1) (E.noneB s1 j1 hl) upd_same (by rw [hid_new_in hl]; exact ha) (E1.newT hl).2.1 k⟩
  | @tup a ys _ hs ha =>
    cases e
    exact ⟨a, ys, rfl, .inr (same_t same_hid hs), fun l hl => q l ys _ n1 _ (s1.trans (E1.newT hl).1) (E.noneB s1 j1 hl) upd_same (by rw [hid_new_in hl]; exact ha) (E1.newT hl).2.1 k⟩
  | _ => cases e
end
end L3
namespace Toy
open PySem L2 L3
local macro_rules | `(tactic| walk_at "we1") => `(tactic| first
  | ((with_reducible refine' we_var ?hv ?_); (case hv => rfl))
  | (with_reducible refine we_int ?_)
  | (with_reducible refine we_str ?_)
  | (with_reducible refine we_bl ?_)
  | (with_reducible refine we_non ?_)
  | ((with_reducible refine' we_dix ?hv ?_); (case hv => rfl))
  | (with_reducible refine we_op ?_)
  | ((with_reducible refine' we_dget ?hv ?_); (case hv => rfl))
  | (with_reducible refine we_count ?_)
  | (with_reducible refine we_cb ?_)
  | (with_reducible refine we_call0 ?_)
  | (with_reducible refine we_tup ?_)
  | (with_reducible refine we_lst ?_)
  | (with_reducible refine we_if ?_)
  | (with_reducible refine we_not ?_)
  | (with_reducible refine we_and ?_)
  | (with_reducible refine we_or ?_)
  | (with_reducible refine we_isN ?_)
  | (with_reducible refine we_notN ?_)
  | (with_reducible refine we_sl ?_)
  | (with_reducible refine wa_cons ?_)
  | (with_reducible refine wa_nil ?_)
  | (with_reducible refine wt_test ?_)
  | (with_reducible refine wt_B ?_)
  | (with_reducible refine wt_and ?_)
  | (with_reducible refine wt_or ?_)
  | (with_reducible refine wt_not ?_)
  | (with_reducible refine wt_yes ?_)
  | (with_reducible refine wo_none ?_)
  | (with_reducible refine wo_some ?_)
  | ((with_reducible refine' r2_ix ?hx ?_); (case hx => rfl))
  | (with_reducible refine r2_isN ?_)
  | (with_reducible refine r2_notN ?_)
  | (with_reducible refine r2_lt ?_)
  | (with_reducible refine r2_le ?_)
  | (with_reducible refine r2_gt ?_)
  | (with_reducible refine r2_ge ?_)
  | (with_reducible refine r2_sub ?_)
  | (with_reducible refine r2_addI ?_)
  | (with_reducible refine r2_eqI ?_)
  | (with_reducible refine r2_neI ?_)
  | (with_reducible refine rc_int ?_)
  | (with_reducible refine rc_abs ?_)
  | ((with_reducible refine' rc_len ?hl ?_); (case hl => rfl))
  | (with_reducible refine wi_seq ?_)
  | (with_reducible refine wi_rng1 ?_)
  | (with_reducible refine wi_rng2 ?_)
  | (with_reducible refine wi_enum ?_)
  | (refine ⟨_, rfl, ?_⟩))
local macro_rules | `(tactic| walk_at "ws1") => `(tactic| first
  | (with_reducible refine ws_seq ?_)
  | (with_reducible refine ws_set ?_)
  | (with_reducible refine ws_ret ?_)
  | (with_reducible refine ws_if ?_)
  | (with_reducible refine ws_next ?_)
  | (with_reducible refine ws_asg ?_))
local macro_rules | `(tactic| walk_at "wg1") => `(tactic| first
  | (with_reducible refine wg_name (rw_name (by decide)) ?_)
  | (with_reducible refine wg_name (fun _ _ => trivial) ?_)
  | ((with_reducible refine' wg_tup ?hl ?_); (case hl => rfl))
  | (with_reducible refine wgs_cons rw_trans ?_)
  | (with_reducible refine wgs_nil rw_refl ?_)
  | (with_reducible refine wgs_cons (fun _ _ _ _ _ => trivial) ?_)
  | (with_reducible refine wgs_nil (fun _ => trivial) ?_))
local macro_rules | `(tactic| walk_at "go") => `(tactic| repeat' (first | walk_at "we1" | walk_at "wg1"))
section
variable {P : Program} {w : World} {K : PySem.W.Frag} {mg : Str → Option Value} {base : Heap}
theorem erase_map {α β : Type} (f : α → β) : ∀ (l : List α) (k : Nat), (l.map f).eraseIdx k = (l.eraseIdx k).map f
  | [], _ => rfl
  | _ :: _, 0 => rfl
  | x :: l, k + 1 => by
    show f x :: (l.map f).eraseIdx k = f x :: (l.eraseIdx k).map f
    rw [erase_map f l k]
/-! what is told, as a list -/
def toldD (x : Str × List Int × Int) : D := .tup [.str x.1, .tup (x.2.1.map .int), .int x.2.2]
def spToldL (P : Program) (w : World) : L3.Spec := fun bag n ds Φ => ∃ W : Wd, ds = [wD P w W] ∧ W.told.length ≤ 1000 ∧ (W.told.map tkey).Nodup ∧ Φ n (.lst (W.told.map toldD))
theorem wlook_self {t : Told} (nd : (t.map tkey).Nodup) {x : Str × List Int × Int} (hx : x ∈ t) : wlook t x.1 x.2.1 = some x.2.2 := by
  induction t with
  | nil => cases hx
  | cons y t ih =>
    rw [List.map_cons, List.nodup_cons] at nd
    unfold wlook at ih ⊢
    rcases List.mem_cons.mp hx with q | q
    · subst q
      rw [List.find?_cons_of_pos (by simp)]; rfl
    · have hne : ¬ (y.1 = x.1 ∧ y.2.1 = x.2.1) := fun z => nd.1 (List.mem_map.mpr ⟨x, q, by unfold tkey; rw [z.1, z.2]⟩)
      rw [List.find?_cons_of_neg (by simpa using hne)]
      exact ih nd.2 q
abbrev s_law_told : Stmt := top 30
abbrev N_law_told : List Str := ["world", "name", "key"]
theorem sc_law_told : FnScope N_law_told ["world"] (defScope s_law_told) := ⟨rfl, rfl, rfl, by decide +kernel, rfl, by decide +kernel, by decide +kernel⟩

theorem ok_ltold {f : Addr} {fd : FuncData} (F : Fun K "_law_told" "_law_told" s_law_told f fd) (T : Txt mg) : FnOk P w K mg base CX0 1 f fd ["world"] (spD K (spToldL P w)) := by
  refine fn_D F sc_law_told (fun bag n ds Φ h => ?_) (fun cdv A outer s H Ex O bag n ds Φ hr h => ?_)
  · obtain ⟨W, e, _⟩ := h
    rw [e]; rfl
  · obtain ⟨W, e, hl, nd, kk⟩ := h
    subst e
    refine ⟨_, (pss_one (ps_ret (L3.pe_lockOr (pe_lc (own := [("name", 1), ("key", 2)]) (g := gTup K 2 (gCons (gName 1) (gCons (gName 2) gNil))) (tt := tYes) rfl sc_law_told.nd (pi_keysN P w (pe_ix (x_ix K) (pv 0) pe_int (fun _ _ => rfl))) (blkOk_by (own := [("name", 1), ("key", 2)]) (N := N_law_told) (sc := defScope s_law_told) (by decide +kernel)) (fun _ _ _ _ _ => (x_tgt K (pg_tup (by rfl) (pgs_cons (pg_name (i := 1) sc_law_told.nd rfl (Or.inl rfl)) (pgs_cons (pg_name (i := 2) sc_law_told.nd rfl (Or.inl rfl)) pgs_nil))))) (fun _ _ _ _ _ => pts_nil) (fun _ _ _ _ _ => (pe_tup (pa_cons (pv 1) (pa_cons (pv 2) (pa_cons (pe_ix (x_ixR P w K (by exact hr.units)) (pe_ix (x_ix K) (pv 0) pe_int (fun _ _ => rfl)) (pe_tup (pa_cons (pv 1) (pa_cons (pv 2) pa_nil))) (fun _ _ => rfl)) pa_nil))))))))), ?_⟩
    show WS _ _ [.val (wD P w W), .un, .un] n _
    walk_at "ws1"
    refine wf_we (wf_lcN (c := ⟨P, w, K, O, bag, H⟩) (i := 0) (kvs := wkv W.told) (ds := [.int W.b, .int W.f]) rfl fun H0' => ?_)
    refine ⟨fun k m acc => m = n ∧ acc = (W.told.take k).map toldD, ⟨rfl, rfl⟩, fun k m acc d hd ⟨e1, e2⟩ => ?_, fun m acc ⟨e1, e2⟩ => ?_⟩
    · subst e1; subst e2
      unfold keysN wkv at hd
      rw [List.map_map] at hd
      obtain ⟨x, hx, rfl, hm, tk⟩ := map_at hd
      show WG _ _ _ (wkey x.1 x.2.1) [.val (wD P w W), .un, .un] m _
      walk_at "go"
      refine itT rfl ?_
      walk_at "go"
      refine ⟨Nat.le_of_ble_eq_true rfl, ?_⟩
      refine r2_ixN (f := .int x.2.2) (key_w x.1 x.2.1) (by rw [look_w, wlook_self nd hm]; rfl) ?_
      refine wa_nil ⟨Nat.le_of_ble_eq_true rfl, by rw [List.length_map, List.length_take, sizeLine_eq]; omega, rfl, ?_⟩
      rw [tk, List.map_append]; rfl
    · subst e1; subst e2
      unfold keysN wkv
      rw [List.length_map, List.length_map, List.take_length]
      exact kk
/-! events by digits -/
def PL : List Str := ["m", "b2", "z", "a", "k0", "c", "zz9", "d", "w1", "e"]
theorem PL_ok : ∀ x ∈ PL, isName x = true ∧ fit (.str x) = true := by
  have h : (PL.all fun x => isName x && fit (.str x)) = true := by decide +kernel
  intro x hx
  have := List.all_eq_true.mp h x hx
  rwa [Bool.and_eq_true] at this
theorem PL_nodup : PL.Nodup := by decide +kernel
theorem erase_perm {α : Type} : ∀ {l : List α} {k : Nat} (h : k < l.length), (l[k] :: l.eraseIdx k).Perm l
  | [], k, h => absurd h (by simp)
  | x :: l, 0, _ => List.Perm.refl _
  | x :: l, k + 1, h => (List.Perm.swap x _ _).trans ((erase_perm (l := l) (k := k) (by simpa using h)).cons x)
theorem move_perm {α : Type} {M L N : List α} {k : Nat} (h : k < L.length) (p : (M ++ L).Perm N) : ((M ++ [L[k]]) ++ L.eraseIdx k).Perm N := by
  rw [List.append_assoc]
  exact ((erase_perm h).append_left M).trans p
theorem goodEvs_push {es : List Toy.Ev} {e : Toy.Ev} (h : goodEvs es) (h2 : es.length < 12) (g : goodEv (es.map Toy.Ev.nm) e) : goodEvs (es ++ [e]) := by
  refine ⟨by rw [List.length_append]; show es.length + 1 ≤ 12; omega, fun i x hx => ?_⟩
  by_cases q : i < es.length
  · rw [List.getElem?_append_left q] at hx
    rw [List.take_append_of_le_length (Nat.le_of_lt q)]
    exact h.2 i x hx
  · rw [List.getElem?_append_right (by omega)] at hx
    have e0 : i - es.length = 0 := by
      cases z : i - es.length with
      | zero => rfl
      | succ k => rw [z] at hx; cases hx
    rw [e0] at hx
    have : i = es.length := by omega
    subst this
    cases hx
    rw [List.take_append_of_le_length (Nat.le_refl _), List.take_length]
    exact g
def spDrawn : L3.Spec := fun bag n ds Φ => ∃ (b q : Addr) (ends : Int) (most : Nat), bag = some (b, q) ∧ ds = [.adr b, .int ends, .int (most : Int)] ∧ 1 ≤ ends ∧ ends ≤ 5 ∧ most ≤ 8 ∧ n + 100 < 2 ^ 60 ∧ ∀ es n', goodEvs es → es.length ≤ most → (∀ e ∈ es, e.nm ∈ PL) → n' ≤ n + 100 → Φ n' (.lst (es.map evT))
theorem six {r : Int} (h0 : 0 ≤ r) (h6 : r < 6) : r = 0 ∨ r = 1 ∨ r = 2 ∨ r = 3 ∨ r = 4 ∨ r = 5 := by omega
theorem three {r : Int} (h0 : 0 ≤ r) (h6 : r < 3) : r = 0 ∨ r = 1 ∨ r = 2 := by omega
abbrev s_law_drawn_events : Stmt := top 35
abbrev N_law_drawn_events : List Str := ["bag", "ends", "most", "pool", "names", "turn", "events", "place", "left", "needs", "at"]
theorem sc_law_drawn_events : FnScope N_law_drawn_events ["bag", "ends", "most"] (defScope s_law_drawn_events) := ⟨rfl, rfl, rfl, by decide +kernel, rfl, by decide +kernel, by decide +kernel⟩

theorem ok_drawn {f : Addr} {fd : FuncData} (F : Fun K "_law_drawn_events" "_law_drawn_events" s_law_drawn_events f fd) (T : Txt mg) (D_law_draw : Dn P w K mg base "_law_draw" 1 ["bag", "limit"] [] [] spDraw) : FnOk P w K mg base CX0 2 f fd ["bag", "ends", "most"] (spD K spDrawn) := by
  refine fn_D F sc_law_drawn_events (fun bag n ds Φ h => ?_) (fun cdv A outer s H Ex O bag n ds Φ hr h => ?_)
  · obtain ⟨b, q, ends, most, _, e, _⟩ := h
    rw [e]; rfl
  · obtain ⟨b, q, ends, most, eb, e, he1, he5, hm8, hn, kk⟩ := h
    subst eb; subst e
    refine ⟨_, (pss_cons (ps_set (i := 3) sc_law_drawn_events.nd rfl (Or.inl rfl) (pe_lst (pa_cons pe_str (pa_cons pe_str (pa_cons pe_str (pa_cons pe_str (pa_cons pe_str (pa_cons pe_str (pa_cons pe_str (pa_cons pe_str (pa_cons pe_str (pa_cons pe_str pa_nil))))))))))))
  (pss_cons (ps_set (i := 4) sc_law_drawn_events.nd rfl (Or.inl rfl) (pe_lst pa_nil))
  (pss_cons (ps_for PassesOwn.never rfl (pi_range1 (by rfl) T.b_range (pa_cons (pe_call D_law_draw.G (hr.mono (by decide)) (by rfl) D_law_draw.m D_law_draw.k D_law_draw.b D_law_draw.v pass0 (pa_cons (pv 0) (pa_cons (pe_op (x_add K) (pv 2) pe_int) pa_nil))) pa_nil)) (pg_name (i := 5) sc_law_drawn_events.nd rfl (Or.inl rfl)) (pss_one (ps_expr (pe_bm PySem.F.plainAttrs_list PySem.F.slot_list_append PySem.F.type_list_append mt_append (pv 4) (pa_cons (x_bm K (id := "list.pop") (pe_bm PySem.F.plainAttrs_list PySem.F.slot_list_pop PySem.F.type_list_pop mt_popAt (pv 3) (pa_cons (pe_call D_law_draw.G (hr.mono (by decide)) (by rfl) D_law_draw.m D_law_draw.k D_law_draw.b D_law_draw.v pass0 (pa_cons (pv 0) (pa_cons (pe_callB (x_len K) (by rfl) T.b_len (by decide +kernel) (pa_cons (pv 3) pa_nil)) pa_nil))) pa_nil))) pa_nil)))))
  (pss_cons (ps_set (i := 6) sc_law_drawn_events.nd rfl (Or.inl rfl) (pe_lst pa_nil))
  (pss_cons (ps_for PassesOwn.never rfl (pi_range1 (by rfl) T.b_range (pa_cons (pe_callB (x_len K) (by rfl) T.b_len (by decide +kernel) (pa_cons (pv 4) pa_nil)) pa_nil)) (pg_name (i := 7) sc_law_drawn_events.nd rfl (Or.inl rfl)) (pss_cons (ps_set (i := 8) sc_law_drawn_events.nd rfl (Or.inl rfl) (pe_callTy (x_list K) (by rfl) T.b_list (by decide +kernel) (pa_cons (pe_slice (x_sl K) (pv 4) po_none (po_some (pv 7))) pa_nil)))
  (pss_cons (ps_set (i := 9) sc_law_drawn_events.nd rfl (Or.inl rfl) (pe_lst pa_nil))
  (pss_cons (ps_for PassesOwn.never rfl (pi_range1 (by rfl) T.b_range (pa_cons (pe_ix (x_ix K) (pe_lst (pa_cons pe_int (pa_cons pe_int (pa_cons pe_int (pa_cons pe_int (pa_cons pe_int (pa_cons pe_int pa_nil))))))) (pe_call D_law_draw.G (hr.mono (by decide)) (by rfl) D_law_draw.m D_law_draw.k D_law_draw.b D_law_draw.v pass0 (pa_cons (pv 0) (pa_cons pe_int pa_nil))) (fun _ _ => rfl)) pa_nil)) (pg_name (i := 5) sc_law_drawn_events.nd rfl (Or.inl rfl)) (pss_one (ps_if (pt_cmpR op_gt (pe_callB (x_len K) (by rfl) T.b_len (by decide +kernel) (pa_cons (pv 8) pa_nil)) pe_int (nomark _)) (pss_cons (ps_set (i := 10) sc_law_drawn_events.nd rfl (Or.inl rfl) (pe_ifExp (pt_cmpR (x_eq K (by exact hr.units)) (pe_call D_law_draw.G (hr.mono (by decide)) (by rfl) D_law_draw.m D_law_draw.k D_law_draw.b D_law_draw.v pass0 (pa_cons (pv 0) (pa_cons pe_int pa_nil))) pe_int (nomark _)) (pe_op op_sub (pe_callB (x_len K) (by rfl) T.b_len (by decide +kernel) (pa_cons (pv 8) pa_nil)) pe_int) (pe_call D_law_draw.G (hr.mono (by decide)) (by rfl) D_law_draw.m D_law_draw.k D_law_draw.b D_law_draw.v pass0 (pa_cons (pv 0) (pa_cons (pe_callB (x_len K) (by rfl) T.b_len (by decide +kernel) (pa_cons (pv 8) pa_nil)) pa_nil)))))
  (pss_one (ps_expr (pe_bm PySem.F.plainAttrs_list PySem.F.slot_list_append PySem.F.type_list_append mt_append (pv 9) (pa_cons (x_bm K (id := "list.pop") (pe_bm PySem.F.plainAttrs_list PySem.F.slot_list_pop PySem.F.type_list_pop mt_popAt (pv 8) (pa_cons (pv 10) pa_nil))) pa_nil))))) pss_nil)))
  (pss_one (ps_expr (pe_bm PySem.F.plainAttrs_list PySem.F.slot_list_append PySem.F.type_list_append mt_append (pv 6) (pa_cons (pe_tup (pa_cons (pe_ix (x_ix K) (pv 4) (pv 7) (fun _ _ => rfl)) (pa_cons (pe_op (x_add K) pe_int (pe_call D_law_draw.G (hr.mono (by decide)) (by rfl) D_law_draw.m D_law_draw.k D_law_draw.b D_law_draw.v pass0 (pa_cons (pv 0) (pa_cons (pv 1) pa_nil)))) (pa_cons (pe_ix (x_ix K) (pe_lst (pa_cons pe_str (pa_cons pe_str (pa_cons pe_str pa_nil)))) (pe_call D_law_draw.G (hr.mono (by decide)) (by rfl) D_law_draw.m D_law_draw.k D_law_draw.b D_law_draw.v pass0 (pa_cons (pv 0) (pa_cons pe_int pa_nil))) (fun _ _ => rfl)) (pa_cons (pe_callTy (x_tup K) (by rfl) T.b_tuple (by decide +kernel) (pa_cons (pv 9) pa_nil)) pa_nil))))) pa_nil))))))))
  (pss_one (ps_ret (pv 6)))))))), ?_⟩
    show WS _ _ [.val (.adr b), .val (.int ends), .val (.int most), .un, .un, .un, .un, .un, .un, .un, .un] n _
    walk_at "ws1"
    refine ws_own (i := 3) (Nat.le_of_ble_eq_true rfl) (wf_lst ?_)
    walk_at "go"
    refine ⟨Nat.le_of_ble_eq_true rfl, ?_⟩
    show WS _ _ [.val (.adr b), .val (.int ends), .val (.int most), .own (PL.map .str), .un, .un, .un, .un, .un, .un, .un] n _
    walk_at "ws1"
    refine ws_own (i := 4) (Nat.le_of_ble_eq_true rfl) (wf_lst (wa_nil ⟨Nat.zero_le _, ?_⟩))
    refine ws_cut2 (Nx := fun n1 ρ1 => n1 ≤ n + 9 ∧ ∃ (N : List Str) (x3 x5 : SD), N.length ≤ most ∧ N.Nodup ∧ (∀ x ∈ N, x ∈ PL) ∧ ρ1 = [.val (.adr b), .val (.int ends), .val (.int most), x3, .own (N.map .str), x5, .un, .un, .un, .un, .un]) ?_ ?_
    · refine ws_for ?_
      walk_at "go"
      refine ⟨b, q, _, rfl, rfl, by omega, by omega, by omega, fun r h0 h4 => ?_⟩
      obtain ⟨c, rfl⟩ : ∃ c : Nat, r = (c : Int) := ⟨r.toNat, by omega⟩
      refine wa_nil ⟨_, rfl, by omega, by omega, ?_⟩
      have hcn : ((c : Nat) : Int).toNat = c := by omega
      rw [hcn]
      refine ⟨fun i m ρ => m ≤ n + 1 + i ∧ ∃ (N R : List Str) (x5 : SD), N.length = i ∧ (N ++ R).Perm PL ∧ ρ = [.val (.adr b), .val (.int ends), .val (.int most), .own (R.map .str), .own (N.map .str), x5, .un, .un, .un, .un, .un], ⟨Nat.le_refl _, [], PL, .un, rfl, List.Perm.refl _, rfl⟩, ?_, ?_⟩
      · rintro i m ρ1 d hd ⟨hm, N, R, x5, hN, hp, rfl⟩
        obtain ⟨hi, rfl⟩ := rangeD_get hd
        have hl := hp.length_eq
        have hPL : PL.length = 10 := rfl
        rw [List.length_append, hPL] at hl
        walk_at "wg1"
        refine ws_appendPop (i := 4) (j := 3) (ds := N.map .str) (es := R.map .str) rfl rfl (by decide) ?_
        refine we_look 3 rfl ?_
        walk_at "go"
        rw [List.length_map]
        refine ⟨b, q, _, rfl, rfl, by omega, by omega, by omega, fun r h0 h4 => ?_⟩
        obtain ⟨k, rfl⟩ : ∃ k : Nat, r = (k : Int) := ⟨r.toNat, by omega⟩
        have hk : k < R.length := by omega
        refine ⟨rfl, k, .str R[k], rfl, by rw [List.getElem?_map, List.getElem?_eq_getElem hk]; rfl, by omega, by rw [List.length_map, sizeLine_eq]; omega, ?_⟩
        have er : (R.map D.str).eraseIdx k = (R.eraseIdx k).map .str := erase_map _ _ _
        refine ⟨by omega, N ++ [R[k]], R.eraseIdx k, .val (.int (0 + (i : Int))), by rw [List.length_append]; show N.length + 1 = _; omega, move_perm hk hp, ?_⟩
        rw [List.map_append, ← er]; rfl
      · rintro m ρ1 ⟨hm, N, R, x5, hN, hp, rfl⟩
        rw [rangeD_len] at hm hN
        have nd := (hp.nodup_iff.mpr PL_nodup)
        exact ⟨by omega, N, .own (R.map .str), x5, by omega, (List.nodup_append.mp nd).1, fun x hx => hp.mem_iff.mp (List.mem_append_left _ hx), rfl⟩
    rintro n0 ρ0 ⟨hn0, N, x3, x5, hNl, hNd, hNm, rfl⟩
    refine ws_freeze 4 rfl ?_
    walk_at "ws1"
    refine ws_own (i := 6) (Nat.le_of_ble_eq_true rfl) (wf_lst (wa_nil ⟨Nat.zero_le _, ?_⟩))
    walk_at "ws1"
    refine ws_for ?_
    walk_at "go"
    rw [List.length_map]
    refine ⟨by omega, by omega, ?_⟩
    have hcn : ((N.length : Nat) : Int).toNat = N.length := by omega
    rw [hcn]
    refine ⟨fun i m ρ => m ≤ n0 + 9 * i ∧ ∃ (es : List Toy.Ev) (x5 x7 x8 x9 x10 : SD), es.map Toy.Ev.nm = N.take i ∧ goodEvs es ∧ ρ = [.val (.adr b), .val (.int ends), .val (.int most), x3, .val (.lst (N.map .str)), x5, .own (es.map evT), x7, x8, x9, x10], ⟨Nat.le_refl _, [], x5, .un, .un, .un, .un, rfl, ⟨Nat.zero_le _, fun i e h => by simp at h⟩, rfl⟩, ?_, ?_⟩
    · rintro i m ρ1 d hd ⟨hm, es, x5, x7, x8, x9, x10, hes, hg, rfl⟩
      obtain ⟨hi, rfl⟩ := rangeD_get hd
      have e0 : (0 : Int) + (i : Int) = (i : Int) := by omega
      rw [e0]
      have hesl : es.length = i := by
        have := congrArg List.length hes
        rw [List.length_map, List.length_take] at this
        omega
      have hNi : N[i]? = some N[i] := List.getElem?_eq_getElem hi
      have htn : (N.take i).Nodup := hNd.sublist (List.take_sublist _ _)
      walk_at "wg1"
      walk_at "ws1"
      refine ws_own (i := 8) (Nat.le_of_ble_eq_true rfl) (wf_list1 ?_)
      walk_at "go"
      rw [cut_to (by rw [List.length_map]; omega), ← List.map_take]
      walk_at "ws1"
      refine ws_own (i := 9) (Nat.le_of_ble_eq_true rfl) (wf_lst (wa_nil ⟨Nat.zero_le _, ?_⟩))
      refine ws_cut2 (Nx := fun n1 ρ1 => n1 ≤ m + 7 ∧ ∃ (M : List Str) (x5 x8 x10 : SD), M.length ≤ 3 ∧ (∀ x ∈ M, x ∈ N.take i) ∧ M.Nodup ∧ ρ1 = [.val (.adr b), .val (.int ends), .val (.int most), x3, .val (.lst (N.map .str)), x5, .own (es.map evT), .val (.int (i : Int)), x8, .own (M.map .str), x10]) ?_ ?_
      · refine ws_for ?_
        walk_at "go"
        refine ⟨Nat.le_of_ble_eq_true rfl, ?_⟩
        walk_at "go"
        refine ⟨b, q, 6, rfl, rfl, by decide, by decide, by omega, fun r h0 h4 => ?_⟩
        have h6 : ∃ c : Nat, c ≤ 3 ∧ ixD (.lst [.int 0, .int 1, .int 1, .int 2, .int 2, .int 3]) r = some (.int (c : Int)) := by
          obtain rfl | rfl | rfl | rfl | rfl | rfl := six h0 h4
          · exact ⟨0, by decide, rfl⟩
          · exact ⟨1, by decide, rfl⟩
          · exact ⟨1, by decide, rfl⟩
          · exact ⟨2, by decide, rfl⟩
          · exact ⟨2, by decide, rfl⟩
          · exact ⟨3, by decide, rfl⟩
        obtain ⟨c, hc3, hc⟩ := h6
        refine r2_ix hc ?_
        refine wa_nil ⟨_, rfl, by omega, by omega, ?_⟩
        have hcn : ((c : Nat) : Int).toNat = c := by omega
        rw [hcn]
        refine ⟨fun t m1 ρ => m1 ≤ m + 1 + 2 * t ∧ ∃ (L M : List Str) (x5 x10 : SD), M.length ≤ t ∧ (M ++ L).Perm (N.take i) ∧ ρ = [.val (.adr b), .val (.int ends), .val (.int most), x3, .val (.lst (N.map .str)), x5, .own (es.map evT), .val (.int (i : Int)), .own (L.map .str), .own (M.map .str), x10], ⟨Nat.le_refl _, N.take i, [], x5, x10, Nat.le_refl _, List.Perm.refl _, rfl⟩, ?_, ?_⟩
        · rintro t m1 ρ1 d hd ⟨hm1, L, M, x5, x10, hM, hp, rfl⟩
          obtain ⟨ht, rfl⟩ := rangeD_get hd
          have hl := hp.length_eq
          rw [List.length_append, List.length_take] at hl
          walk_at "wg1"
          refine ws_if (wt_look 8 rfl ?_)
          walk_at "go"
          rw [List.length_map]
          refine dec2 (fun h1 => ?_) (fun h1 => ?_)
          · refine ws_cut (fun n1 ρ1 => n1 ≤ m1 + 2 ∧ ∃ (k : Nat) (hk : k < L.length), ρ1 = [.val (.adr b), .val (.int ends), .val (.int most), x3, .val (.lst (N.map .str)), .val (.int (0 + (t : Int))), .own (es.map evT), .val (.int (i : Int)), .own (L.map .str), .own (M.map .str), .val (.int (k : Int))]) ?_ ?_
            · refine ws_set (we_look 8 rfl ?_)
              walk_at "go"
              refine ⟨b, q, 2, rfl, rfl, by decide, by decide, by omega, fun r h0 h4 => ?_⟩
              walk_at "go"
              refine dec2 (fun h2 => ?_) (fun h2 => ?_)
              · walk_at "go"
                rw [List.length_map]
                refine ⟨rfl, by omega, L.length - 1, by omega, ?_⟩
                have e1 : ((L.length : Nat) : Int) - 1 = ((L.length - 1 : Nat) : Int) := by omega
                rw [e1]; rfl
              · walk_at "go"
                rw [List.length_map]
                refine ⟨b, q, _, rfl, rfl, by omega, by omega, by omega, fun r h0 h4 => ?_⟩
                obtain ⟨k, rfl⟩ : ∃ k : Nat, r = (k : Int) := ⟨r.toNat, by omega⟩
                exact ⟨rfl, by omega, k, by omega, rfl⟩
            rintro n1 ρ1 ⟨hn1, k, hk, rfl⟩
            refine ws_appendPop (i := 9) (j := 8) (ds := M.map .str) (es := L.map .str) rfl rfl (by decide) ?_
            walk_at "go"
            have er : (L.map D.str).eraseIdx k = (L.eraseIdx k).map .str := erase_map _ _ _
            refine ⟨k, .str L[k], rfl, by rw [List.getElem?_map, List.getElem?_eq_getElem hk]; rfl, by omega, by rw [List.length_map, sizeLine_eq]; omega, by omega, L.eraseIdx k, M ++ [L[k]], .val (.int (0 + (t : Int))), .val (.int (k : Int)), by rw [List.length_append]; show M.length + 1 ≤ _; omega, move_perm hk hp, ?_⟩
            rw [List.map_append, ← er]; rfl
          · walk_at "ws1"
            exact ⟨by omega, L, M, .val (.int (0 + (t : Int))), x10, by omega, hp, rfl⟩
        · rintro m1 ρ1 ⟨hm1, L, M, x5, x10, hM, hp, rfl⟩
          rw [rangeD_len] at hm1 hM
          have nd := hp.nodup_iff.mpr htn
          exact ⟨by omega, M, x5, .own (L.map .str), x10, by omega, fun x hx => hp.mem_iff.mp (List.mem_append_left _ hx), (List.nodup_append.mp nd).1, rfl⟩
      rintro n1 ρ1 ⟨hn1, M, x5, x8, x10, hM3, hMm, hMd, rfl⟩
      refine ws_freeze 9 rfl ?_
      have nxt : ∀ (a : Int) (kd : Str) (m' : Nat), 1 ≤ a → a ≤ ends → (kd = "query" ∨ kd = "action") → m' ≤ n1 + 2 → (fun (i' m' : Nat) (ρ' : List SD) => m' ≤ n0 + 9 * i' ∧ ∃ (es : List Toy.Ev) (x5 x7 x8 x9 x10 : SD), es.map Toy.Ev.nm = N.take i' ∧ goodEvs es ∧ ρ' = [.val (.adr b), .val (.int ends), .val (.int most), x3, .val (.lst (N.map .str)), x5, .own (es.map evT), x7, x8, x9, x10]) (i + 1) m' [.val (.adr b), .val (.int ends), .val (.int most), x3, .val (.lst (N.map .str)), x5, .own ((es ++ [(⟨N[i], a, kd, M⟩ : Toy.Ev)]).map evT), .val (.int (i : Int)), x8, .val (.lst (M.map .str)), x10] := fun a kd m' ha1 ha2 hkd hm' => by
        have okN := PL_ok N[i] (hNm _ (List.getElem_mem hi))
        refine ⟨by omega, es ++ [(⟨N[i], a, kd, M⟩ : Toy.Ev)], _, _, _, _, _, by rw [List.map_append, hes, List.take_succ_eq_append_getElem hi]; rfl, goodEvs_push hg (by omega) ?_, rfl⟩
        rw [hes]
        refine ⟨okN.1, fun z => ?_, ha1, Int.le_trans ha2 he5, hkd, hM3, hMm, hMd, okN.2, ?_, fun x hx => (PL_ok x (hNm x (List.mem_of_mem_take (hMm x hx)))).2⟩
        · have hlt : i < (N.take (i + 1)).length := by rw [List.length_take]; omega
          have nd2 : (N.take i ++ [N[i]]).Nodup := by rw [← List.take_succ_eq_append_getElem hi]; exact hNd.sublist (List.take_sublist _ _)
          exact (List.nodup_append.mp nd2).2.2 _ z _ (List.mem_singleton.mpr rfl) rfl
        · show fit (.str kd) = true
          rcases hkd with h | h <;> rw [h] <;> decide +kernel
      refine ws_append (i := 6) (ds := es.map evT) rfl ?_
      walk_at "go"
      refine r2_ix (f := .str N[i]) (ixD_nat (by rw [List.getElem?_map, hNi]; rfl)) ?_
      walk_at "go"
      refine ⟨b, q, _, rfl, rfl, by omega, by omega, by omega, fun a ha0 ha1 => ?_⟩
      walk_at "go"
      refine ⟨Nat.le_of_ble_eq_true rfl, ?_⟩
      walk_at "go"
      refine ⟨b, q, 3, rfl, rfl, by decide, by decide, by omega, fun r h0 h4 => ?_⟩
      have h3 : ∃ kd : Str, (kd = "query" ∨ kd = "action") ∧ ixD (.lst [.str "query", .str "query", .str "action"]) r = some (.str kd) := by
        obtain rfl | rfl | rfl := three h0 h4
        · exact ⟨"query", .inl rfl, rfl⟩
        · exact ⟨"query", .inl rfl, rfl⟩
        · exact ⟨"action", .inr rfl, rfl⟩
      obtain ⟨kd, hkd, hix⟩ := h3
      refine r2_ix hix ?_
      walk_at "go"
      refine rc_tup rfl ?_
      walk_at "go"
      refine ⟨Nat.le_of_ble_eq_true rfl, by rw [List.length_map, sizeLine_eq]; omega, ?_⟩
      have := nxt (1 + a) kd (n1 + 1 + 1) (by omega) (by omega) hkd (by omega)
      rw [List.map_append] at this
      exact this
    · rintro m ρ1 ⟨hm, es, x5, x7, x8, x9, x10, hes, hg, rfl⟩
      rw [rangeD_len] at hm hes
      refine ws_freeze 6 rfl ?_
      walk_at "ws1"
      walk_at "go"
      have hesl : es.length = N.length := by
        have := congrArg List.length hes
        rw [List.length_map, List.length_take] at this
        omega
      exact kk es m hg (by omega) (fun e he => hNm e.nm (List.mem_of_mem_take (hes ▸ List.mem_map.mpr ⟨e, he, rfl⟩))) (by omega)

end
end Toy
namespace Toy
open PySem L2 L3
local macro_rules | `(tactic| walk_at "we1") => `(tactic| first
  | ((with_reducible refine' we_var ?hv ?_); (case hv => rfl))
  | (with_reducible refine we_int ?_)
  | (with_reducible refine we_str ?_)
  | (with_reducible refine we_bl ?_)
  | (with_reducible refine we_non ?_)
  | ((with_reducible refine' we_dix ?hv ?_); (case hv => rfl))
  | (with_reducible refine we_op ?_)
  | ((with_reducible refine' we_dget ?hv ?_); (case hv => rfl))
  | (with_reducible refine we_count ?_)
  | (with_reducible refine we_cb ?_)
  | (with_reducible refine we_call0 ?_)
  | (with_reducible refine we_tup ?_)
  | (with_reducible refine we_lst ?_)
  | (with_reducible refine we_if ?_)
  | (with_reducible refine we_not ?_)
  | (with_reducible refine we_and ?_)
  | (with_reducible refine we_or ?_)
  | (with_reducible refine we_isN ?_)
  | (with_reducible refine we_notN ?_)
  | (with_reducible refine we_sl ?_)
  | (with_reducible refine wa_cons ?_)
  | (with_reducible refine wa_nil ?_)
  | (with_reducible refine wt_test ?_)
  | (with_reducible refine wt_B ?_)
  | (with_reducible refine wt_and ?_)
  | (with_reducible refine wt_or ?_)
  | (with_reducible refine wt_not ?_)
  | (with_reducible refine wt_yes ?_)
  | (with_reducible refine wo_none ?_)
  | (with_reducible refine wo_some ?_)
  | ((with_reducible refine' r2_ix ?hx ?_); (case hx => rfl))
  | (with_reducible refine r2_isN ?_)
  | (with_reducible refine r2_notN ?_)
  | (with_reducible refine r2_lt ?_)
  | (with_reducible refine r2_le ?_)
  | (with_reducible refine r2_gt ?_)
  | (with_reducible refine r2_ge ?_)
  | (with_reducible refine r2_sub ?_)
  | (with_reducible refine r2_addI ?_)
  | (with_reducible refine r2_eqI ?_)
  | (with_reducible refine r2_neI ?_)
  | (with_reducible refine rc_int ?_)
  | (with_reducible refine rc_abs ?_)
  | ((with_reducible refine' rc_len ?hl ?_); (case hl => rfl))
  | (with_reducible refine wi_seq ?_)
  | (with_reducible refine wi_rng1 ?_)
  | (with_reducible refine wi_rng2 ?_)
  | (with_reducible refine wi_enum ?_)
  | (refine ⟨_, rfl, ?_⟩))
local macro_rules | `(tactic| walk_at "ws1") => `(tactic| first
  | (with_reducible refine ws_seq ?_)
  | (with_reducible refine ws_set ?_)
  | (with_reducible refine ws_ret ?_)
  | (with_reducible refine ws_if ?_)
  | (with_reducible refine ws_next ?_)
  | (with_reducible refine ws_asg ?_))
local macro_rules | `(tactic| walk_at "wg1") => `(tactic| first
  | (with_reducible refine wg_name (rw_name (by decide)) ?_)
  | (with_reducible refine wg_name (fun _ _ => trivial) ?_)
  | ((with_reducible refine' wg_tup ?hl ?_); (case hl => rfl))
  | (with_reducible refine wgs_cons rw_trans ?_)
  | (with_reducible refine wgs_nil rw_refl ?_)
  | (with_reducible refine wgs_cons (fun _ _ _ _ _ => trivial) ?_)
  | (with_reducible refine wgs_nil (fun _ => trivial) ?_))
local macro_rules | `(tactic| walk_at "go") => `(tactic| repeat' (first | walk_at "we1" | walk_at "wg1"))
section
variable {P : Program} {w : World} {K : PySem.W.Frag} {mg : Str → Option Value} {base : Heap}
theorem isE_iff {nm : Str} {ks : List Int} {e : Ent} : isE nm ks e = decide (e.nm = nm ∧ e.ks = ks) := by
  unfold isE
  by_cases a : e.nm = nm <;> by_cases b : e.ks = ks <;> simp [a, b]
def toE (x : Str × List Int × Int) : Ent := ⟨x.1, x.2.1, x.2.2⟩
theorem told_ents (t : Told) : t.map toldD = (t.map toE).map entD := by rw [List.map_map]; rfl
theorem findO_told (nm : Str) (ks : List Int) : ∀ t : Told, findO (t.map toE) nm ks = wlook t nm ks
  | [] => rfl
  | x :: t => by
    have ih := findO_told nm ks t
    unfold findO wlook at *
    rw [List.map_cons]
    by_cases h : x.1 = nm ∧ x.2.1 = ks
    · rw [List.find?_cons_of_pos (by rw [isE_iff]; exact decide_eq_true h), List.find?_cons_of_pos (by simpa using h)]; rfl
    · rw [List.find?_cons_of_neg (by rw [isE_iff, decide_eq_false (show ¬ ((toE x).nm = nm ∧ (toE x).ks = ks) from h)]; decide), List.find?_cons_of_neg (by simpa using h)]; exact ih
theorem findO_some {E : List Ent} (h : okEs E) {e : Ent} (he : e ∈ E) : findO E e.nm e.ks = some e.v := by
  unfold findO
  cases q : E.find? (isE e.nm e.ks) with
  | none => exact absurd (List.find?_eq_none.mp q e he) (by rw [isE_iff]; simp)
  | some x =>
    have h1 := List.mem_of_find?_eq_some q
    have h2 := List.find?_some q
    rw [isE_iff] at h2
    have h3 := of_decide_eq_true h2
    obtain ⟨i, hi⟩ := List.getElem?_of_mem h1
    obtain ⟨j, hj⟩ := List.getElem?_of_mem he
    by_cases hij : i = j
    · subst hij; rw [hi] at hj; cases hj; rfl
    · exact absurd h3 (key_ne h hi hj hij)
theorem findO_mem {E : List Ent} {nm : Str} {ks : List Int} {v : Int} (h : findO E nm ks = some v) : ⟨nm, ks, v⟩ ∈ E := by
  unfold findO at h
  cases q : E.find? (isE nm ks) with
  | none => rw [q] at h; cases h
  | some x =>
    rw [q] at h
    have h2 := List.find?_some q
    rw [isE_iff] at h2
    have h3 := of_decide_eq_true h2
    have hv : x.v = v := Option.some.inj h
    have h1 := List.mem_of_find?_eq_some q
    obtain ⟨a, b, c⟩ := x
    obtain ⟨rfl, rfl⟩ := h3
    subst hv
    exact h1
theorem findO_same {E F : List Ent} (hE : okEs E) (hF : okEs F) (nm : Str) (ks : List Int) (h : ∀ v, (⟨nm, ks, v⟩ : Ent) ∈ E ↔ (⟨nm, ks, v⟩ : Ent) ∈ F) : findO E nm ks = findO F nm ks := by
  cases q : findO E nm ks with
  | some v => exact (findO_some (e := ⟨nm, ks, v⟩) hF ((h v).mp (findO_mem q))).symm
  | none =>
    cases q2 : findO F nm ks with
    | none => rfl
    | some v =>
      have := findO_some (e := ⟨nm, ks, v⟩) hE ((h v).mpr (findO_mem q2))
      rw [q] at this; cases this
theorem findO_sort {E : List Ent} (h : okEs E) (nm : Str) (ks : List Int) : findO (sortE E) nm ks = findO E nm ks := findO_same (okEs_sort h) h nm ks fun v => (sortE_perm E).mem_iff
/-- the world as the package makes it -/
def madeP (W : Wd) : Wp := ⟨sortE (W.told.map toE), W.b, W.f⟩
theorem okEs_told {es : List Toy.Ev} (hg : goodEvs es) {W : Wd} (hW : okW W) (hT : okT es W.told) : okEs (W.told.map toE) := by
  refine ⟨by rw [List.length_map]; have := hW.n; omega, fun e he => ?_, ?_⟩
  · obtain ⟨x, hx, rfl⟩ := List.mem_map.mp he
    obtain ⟨e', he', q1, q2, q3⟩ := hT.mem x hx
    have fe := fit_nm hg he'
    exact ⟨by show isName x.1 = true; rw [q1]; exact fe.2.2.2, by show fit (.str x.1) = true; rw [q1]; exact fe.1, by show x.2.1.length ≤ 3; rw [q2]; exact fe.2.2.1⟩
  · rw [List.map_map]; exact hT.nd
theorem made_ans {es : List Toy.Ev} (hg : goodEvs es) {W : Wd} (hW : okW W) (hT : okT es W.told) (nm : Str) (ks : List Int) : ansP (madeP W) nm ks = ans W nm ks := by
  unfold ansP ans madeP
  dsimp only
  rw [findO_sort (okEs_told hg hW hT), findO_told]
  try (cases wlook W.told nm ks <;> rfl)
theorem okP_made {es : List Toy.Ev} (hg : goodEvs es) {W : Wd} (hW : okW W) (hT : okT es W.told) : okP (madeP W) := ⟨okEs_sort (okEs_told hg hW hT), Nat.le_trans hW.f (by decide)⟩
/-! names that no event has -/
def kn (a : Ask) : Bool := decide (a.nm ≠ "nobody")
theorem act_none {es : List Toy.Ev} {V : Str → Int} {x : Str} (h : x ∉ es.map Toy.Ev.nm) : actK es V x = none := by
  unfold actK
  rw [List.find?_eq_none.mpr fun e he => by
    have : e.nm ≠ x := fun z => h (z ▸ List.mem_map.mpr ⟨e, he, rfl⟩)
    simpa using this]
  rfl
def placesL : Nat → List Ask → List Nat
  | _, [] => []
  | i, a :: l => if kn a = true then i :: placesL (i + 1) l else placesL (i + 1) l
theorem false_cons (es : List Toy.Ev) (V : Str → Int) (done : List Str) (i : Nat) (a : Ask) (l : List Ask) : falseF es V done i (a :: l) = match actK es V a.nm with
    | some ks => if a.nm ∈ done ∨ a.ks ≠ ks then some i else falseF es V (done ++ [a.nm]) (i + 1) l
    | none => falseF es V done (i + 1) l := rfl
theorem first_known {es : List Toy.Ev} (hno : ("nobody" : Str) ∉ es.map Toy.Ev.nm) (V : Str → Int) : ∀ (l r : List Ask) (done : List Str) (i c : Nat),
    (falseF es V done c (l.filter kn) = none → falseF es V done i l = none) ∧ ∀ d, falseF es V done c (l.filter kn) = some d → c ≤ d ∧ ∃ p, (placesL i (l ++ r))[d - c]? = some p ∧ falseF es V done i l = some p
  | [], r, done, i, c => ⟨fun _ => rfl, (fun d h => by cases h)⟩
  | a :: l, r, done, i, c => by
    by_cases hk : kn a = true
    · have eP : placesL i (a :: l ++ r) = i :: placesL (i + 1) (l ++ r) := if_pos hk
      rw [List.filter_cons, if_pos hk, false_cons, false_cons, eP]
      cases hA : actK es V a.nm with
      | none =>
        obtain ⟨h1, h2⟩ := first_known hno V l r done (i + 1) (c + 1)
        refine ⟨h1, fun d h => ?_⟩
        obtain ⟨q1, p, q2, q3⟩ := h2 d h
        refine ⟨by omega, p, ?_, q3⟩
        rw [show d - c = (d - (c + 1)) + 1 from by omega, List.getElem?_cons_succ]
        exact q2
      | some ks =>
        dsimp only
        by_cases hc : a.nm ∈ done ∨ a.ks ≠ ks
        · rw [if_pos hc, if_pos hc]
          refine ⟨(fun h => by cases h), fun d h => ?_⟩
          cases h
          exact ⟨Nat.le_refl _, i, by rw [Nat.sub_self]; rfl, rfl⟩
        · rw [if_neg hc, if_neg hc]
          obtain ⟨h1, h2⟩ := first_known hno V l r (done ++ [a.nm]) (i + 1) (c + 1)
          refine ⟨h1, fun d h => ?_⟩
          obtain ⟨q1, p, q2, q3⟩ := h2 d h
          refine ⟨by omega, p, ?_, q3⟩
          rw [show d - c = (d - (c + 1)) + 1 from by omega, List.getElem?_cons_succ]
          exact q2
    · have hn : a.nm = "nobody" := Decidable.not_not.mp fun z => hk (decide_eq_true z)
      have eP : placesL i (a :: l ++ r) = placesL (i + 1) (l ++ r) := if_neg hk
      have hA : actK es V a.nm = none := by rw [hn]; exact act_none hno
      rw [List.filter_cons, if_neg hk, false_cons, hA, eP]
      exact first_known hno V l r done (i + 1) c
theorem places_len : ∀ (i : Nat) (l : List Ask), (placesL i l).length ≤ l.length
  | _, [] => Nat.le_refl _
  | i, a :: l => by
    have := places_len (i + 1) l
    show (if kn a = true then i :: placesL (i + 1) l else placesL (i + 1) l).length ≤ l.length + 1
    split
    · rw [List.length_cons]; omega
    · omega
theorem places_snoc (a : Ask) : ∀ (l : List Ask) (i : Nat), placesL i (l ++ [a]) = placesL i l ++ if kn a = true then [i + l.length] else []
  | [], i => by
    show (if kn a = true then i :: [] else []) = [] ++ if kn a = true then [i + 0] else []
    split <;> rfl
  | b :: l, i => by
    have ih := places_snoc a l (i + 1)
    have e : i + 1 + l.length = i + (b :: l).length := by rw [List.length_cons]; omega
    rw [e] at ih
    show (if kn b = true then i :: placesL (i + 1) (l ++ [a]) else placesL (i + 1) (l ++ [a])) = (if kn b = true then i :: placesL (i + 1) l else placesL (i + 1) l) ++ _
    rw [ih]
    split
    · rw [List.cons_append]
    · rfl
theorem beat_known {asks : List Ask} {x : Str} (h : x ≠ "nobody") (ks : List Int) : beatF (asks.filter kn) x ks = beatF asks x ks := by
  unfold beatF
  rw [List.find?_filter]
  congr 2
  funext a
  by_cases q : a.nm = x ∧ a.ks = ks
  · have : kn a = true := decide_eq_true fun z => h (q.1.symm.trans z)
    simp [this]
  · simp [q]
theorem beat_calm {asks : List Ask} {x : Str} (ks : List Int) : beatF (asks.filter fun a => decide (a.nm ≠ x)) x ks = none := by
  unfold beatF
  rw [List.find?_eq_none.mpr fun a ha => by
    have := of_decide_eq_true (List.mem_filter.mp ha).2
    simp [this]]
  rfl
theorem beat_head (asks : List Ask) (x : Str) (ks : List Int) : (((asks.filter fun a => decide (a.nm = x ∧ a.ks = ks)).map (·.beat)).head?) = beatF asks x ks := by
  unfold beatF
  rw [List.head?_map, List.head?_filter]
theorem PL_no : ("nobody" : Str) ∉ PL := by decide +kernel
/-! all made queries -/
def toQ (e : Toy.Ev) : Toy.Ev := ⟨e.nm, e.at_, "query", e.needs⟩
theorem toQ_nm (es : List Toy.Ev) : (es.map toQ).map Toy.Ev.nm = es.map Toy.Ev.nm := by rw [List.map_map]; rfl
theorem goodEvs_Q {es : List Toy.Ev} (h : goodEvs es) : goodEvs (es.map toQ) := by
  refine ⟨by rw [List.length_map]; exact h.1, fun i e he => ?_⟩
  rw [List.getElem?_map] at he
  cases q : es[i]? with
  | none => rw [q] at he; cases he
  | some x =>
    rw [q] at he
    cases he
    obtain ⟨g1, g2, g3, g4, g5, g6, g7, g8, g9, g10, g11⟩ := h.2 i x q
    rw [← List.map_take, toQ_nm]
    exact ⟨g1, g2, g3, g4, .inl rfl, g6, g7, g8, g9, (by decide +kernel : fit (.str "query") = true), g11⟩
theorem act_Q {es : List Toy.Ev} {V : Str → Int} (x : Str) : actK (es.map toQ) V x = none := by
  unfold actK
  cases h : (es.map toQ).find? (fun e => decide (e.nm = x)) with
  | none => rfl
  | some e =>
    obtain ⟨y, _, rfl⟩ := List.mem_map.mp (List.mem_of_find?_eq_some h)
    exact (if_neg (by decide) : (if ("query" : Str) = "action" then some (y.needs.map V) else none) = none)
theorem false_Q {es : List Toy.Ev} (V : Str → Int) : ∀ (l : List Ask) (done : List Str) (i : Nat), falseF (es.map toQ) V done i l = none
  | [], _, _ => rfl
  | a :: l, done, i => by
    rw [false_cons, act_Q]
    exact false_Q V l done (i + 1)
theorem run_Q {es : List Toy.Ev} {W : Wp} {V : Str → Int} (h : RunOk W es V) : RunOk W (es.map toQ) V := ⟨goodEvs_Q h.g, h.w, fun e he => by
  obtain ⟨y, hy, rfl⟩ := List.mem_map.mp he
  exact h.t y hy, h.b⟩

end
end Toy
namespace Toy
open PySem L2 L3
local macro_rules | `(tactic| walk_at "we1") => `(tactic| first
  | ((with_reducible refine' we_var ?hv ?_); (case hv => rfl))
  | (with_reducible refine we_int ?_)
  | (with_reducible refine we_str ?_)
  | (with_reducible refine we_bl ?_)
  | (with_reducible refine we_non ?_)
  | ((with_reducible refine' we_dix ?hv ?_); (case hv => rfl))
  | (with_reducible refine we_op ?_)
  | ((with_reducible refine' we_dget ?hv ?_); (case hv => rfl))
  | (with_reducible refine we_count ?_)
  | (with_reducible refine we_cb ?_)
  | (with_reducible refine we_call0 ?_)
  | (with_reducible refine we_tup ?_)
  | (with_reducible refine we_lst ?_)
  | (with_reducible refine we_if ?_)
  | (with_reducible refine we_not ?_)
  | (with_reducible refine we_and ?_)
  | (with_reducible refine we_or ?_)
  | (with_reducible refine we_isN ?_)
  | (with_reducible refine we_notN ?_)
  | (with_reducible refine we_sl ?_)
  | (with_reducible refine wa_cons ?_)
  | (with_reducible refine wa_nil ?_)
  | (with_reducible refine wt_test ?_)
  | (with_reducible refine wt_B ?_)
  | (with_reducible refine wt_and ?_)
  | (with_reducible refine wt_or ?_)
  | (with_reducible refine wt_not ?_)
  | (with_reducible refine wt_yes ?_)
  | (with_reducible refine wo_none ?_)
  | (with_reducible refine wo_some ?_)
  | ((with_reducible refine' r2_ix ?hx ?_); (case hx => rfl))
  | (with_reducible refine r2_isN ?_)
  | (with_reducible refine r2_notN ?_)
  | (with_reducible refine r2_lt ?_)
  | (with_reducible refine r2_le ?_)
  | (with_reducible refine r2_gt ?_)
  | (with_reducible refine r2_ge ?_)
  | (with_reducible refine r2_sub ?_)
  | (with_reducible refine r2_addI ?_)
  | (with_reducible refine r2_eqI ?_)
  | (with_reducible refine r2_neI ?_)
  | (with_reducible refine rc_int ?_)
  | (with_reducible refine rc_abs ?_)
  | ((with_reducible refine' rc_len ?hl ?_); (case hl => rfl))
  | (with_reducible refine wi_seq ?_)
  | (with_reducible refine wi_rng1 ?_)
  | (with_reducible refine wi_rng2 ?_)
  | (with_reducible refine wi_enum ?_)
  | (refine ⟨_, rfl, ?_⟩))
local macro_rules | `(tactic| walk_at "ws1") => `(tactic| first
  | (with_reducible refine ws_seq ?_)
  | (with_reducible refine ws_set ?_)
  | (with_reducible refine ws_ret ?_)
  | (with_reducible refine ws_if ?_)
  | (with_reducible refine ws_next ?_)
  | (with_reducible refine ws_asg ?_))
local macro_rules | `(tactic| walk_at "wg1") => `(tactic| first
  | (with_reducible refine wg_name (rw_name (by decide)) ?_)
  | (with_reducible refine wg_name (fun _ _ => trivial) ?_)
  | ((with_reducible refine' wg_tup ?hl ?_); (case hl => rfl))
  | (with_reducible refine wgs_cons rw_trans ?_)
  | (with_reducible refine wgs_nil rw_refl ?_)
  | (with_reducible refine wgs_cons (fun _ _ _ _ _ => trivial) ?_)
  | (with_reducible refine wgs_nil (fun _ => trivial) ?_))
local macro_rules | `(tactic| walk_at "go") => `(tactic| repeat' (first | walk_at "we1" | walk_at "wg1"))
section
variable {P : Program} {w : World} {K : PySem.W.Frag} {mg : Str → Option Value} {base : Heap}
/-! ### the law's helpers -/
theorem filt_to {α : Type} {f : α → D} {pD : D → Bool} {p : α → Bool} {g : D → D} {k : α → D} (h : ∀ a, pD (f a) = p a) (hg : ∀ a, g (f a) = k a) (l : List α) : ((l.map f).filter pD).map g = (l.filter p).map k := by
  rw [List.filter_map, show pD ∘ f = p from funext h, List.map_map, show g ∘ f = k from funext hg]
def isNmD (x : Str) : D → Bool
  | .tup (.str y :: _) => decide (y = x)
  | _ => false
def spLEv : L3.Spec := fun bag n ds Φ => ∃ (es : List Toy.Ev) (e : Toy.Ev), ds = [.lst (es.map evT), .str e.nm] ∧ goodEvs es ∧ e ∈ es ∧ Φ n (evT e)
abbrev s_law_event : Stmt := top 32
abbrev N_law_event : List Str := ["events", "name", "event"]
theorem sc_law_event : FnScope N_law_event ["events", "name"] (defScope s_law_event) := ⟨rfl, rfl, rfl, by decide +kernel, rfl, by decide +kernel, by decide +kernel⟩

theorem ok_lev {f : Addr} {fd : FuncData} (F : Fun K "_law_event" "_law_event" s_law_event f fd) (T : Txt mg) : FnOk P w K mg base CX0 1 f fd ["events", "name"] (spD K spLEv) := by
  refine fn_D F sc_law_event (fun bag n ds Φ h => ?_) (fun cdv A outer s H Ex O bag n ds Φ hr h => ?_)
  · obtain ⟨es, e, q, _⟩ := h
    rw [q]; rfl
  · obtain ⟨es, e, q, hg, he, kk⟩ := h
    subst q
    refine ⟨_, (pss_one (ps_ret (pe_ix (x_ix K) (pe_lc (own := [("event", 2)]) (g := gName 2) rfl sc_law_event.nd (x_seq K (pv 0)) (blkOk_by (own := [("event", 2)]) (N := N_law_event) (sc := defScope s_law_event) (by decide +kernel)) (fun _ _ _ _ _ => (pg_name (i := 2) sc_law_event.nd rfl (Or.inl rfl))) (fun _ _ _ _ _ => (pts_one (pt_cmpR (x_eq K (by exact hr.units)) (pe_ix (x_ix K) (pv 2) pe_int (fun _ _ => rfl)) (pv 1) (nomark _)))) (fun _ _ _ _ _ => (pv 2))) pe_int (fun _ _ => rfl)))), ?_⟩
    show WS _ _ [.val (.lst (es.map evT)), .val (.str e.nm), .un] n _
    have fe := fit_nm hg he
    have h12 := hg.1
    walk_at "ws1"
    refine we_op (wf_we (wf_map id (isNmD e.nm) (wi_seq ?_)))
    walk_at "we1"
    refine ⟨_, rfl, by rw [List.length_map]; omega, fun d hd m => ?_, ?_⟩
    · obtain ⟨x, hx, rfl⟩ := List.mem_map.mp hd
      walk_at "go"
      refine r2_eqD (fit_nm hg hx).1 fe.1 ?_
      rw [eq_str]
      refine ⟨_, rfl, rfl, rfl, fun _ => ?_⟩
      walk_at "go"
      exact ⟨rfl, rfl⟩
    rw [filt_to (p := fun x : Toy.Ev => decide (x.nm = e.nm)) (k := evT) (fun x => rfl) (fun x => rfl)]
    walk_at "we1"
    have h0 : (es.filter fun x => decide (x.nm = e.nm))[0]? = some e := by
      rw [← List.head?_eq_getElem?, List.head?_filter]
      exact find_nm hg he
    exact r2_ix (f := evT e) (ixD_nat (j := 0) (by rw [List.getElem?_map, h0]; rfl)) kk
def beatD : D → D
  | .tup (b :: _) => b
  | _ => .non
def isAskD (x : Str) (ks : List Int) : D → Bool
  | .tup [_, _, .str y, .tup l, _] => decide (y = x) && eqD (.tup l) (.tup (ks.map .int))
  | _ => false
theorem isAsk_at (x : Str) (ks : List Int) (a : Ask) : isAskD x ks (askD a) = decide (a.nm = x ∧ a.ks = ks) := by
  show (decide (a.nm = x) && eqD (.tup (a.ks.map .int)) (.tup (ks.map .int))) = _
  rw [eq_tupI, Bool.decide_and]
structure TrueOk (es : List Toy.Ev) (W : Wd) (V : Str → Int) : Prop where
  g : goodEvs es
  w : okW W
  t : IsTrue W es V
  b : ∀ x, (V x).natAbs ≤ 2 ^ 160
theorem tr_at {es : List Toy.Ev} (hg : goodEvs es) (V : Str → Int) {e : Toy.Ev} (he : e ∈ es) : lookK (trK V es) (.inr e.nm) = some (trD V e) := by
  show lookK (nmK (trD V) es) (.inr e.nm) = _
  rw [look_nm, find_nm hg he]; rfl
def spLFT (P : Program) (w : World) : L3.Spec := fun bag n ds Φ => ∃ (es : List Toy.Ev) (W : Wd) (V : Str → Int) (asks : List Ask) (e : Toy.Ev), ds = [.lst (es.map evT), wD P w W, .lst (asks.map askD), .str e.nm] ∧ TrueOk es W V ∧ e ∈ es ∧ asks.length ≤ 1000 ∧ (∀ a ∈ asks, fit (.str a.nm) = true) ∧ Φ n (optI (beatF asks e.nm (e.needs.map V)))
abbrev s_law_first_true : Stmt := top 33
abbrev N_law_first_true : List Str := ["events", "world", "asks", "name", "key", "ask", "beats"]
theorem sc_law_first_true : FnScope N_law_first_true ["events", "world", "asks", "name"] (defScope s_law_first_true) := ⟨rfl, rfl, rfl, by decide +kernel, rfl, by decide +kernel, by decide +kernel⟩

theorem ok_lft {f : Addr} {fd : FuncData} (F : Fun K "_law_first_true" "_law_first_true" s_law_first_true f fd) (T : Txt mg) (D_law_true : Dn P w K mg base "_law_true" 2 ["events", "world"] [] [] (spTrue P w)) : FnOk P w K mg base CX0 3 f fd ["events", "world", "asks", "name"] (spD K (spLFT P w)) := by
  refine fn_D F sc_law_first_true (fun bag n ds Φ h => ?_) (fun cdv A outer s H Ex O bag n ds Φ hr h => ?_)
  · obtain ⟨es, W, V, asks, e, q, _⟩ := h
    rw [q]; rfl
  · obtain ⟨es, W, V, asks, e, q, hT, he, hl, hf, kk⟩ := h
    subst q
    refine ⟨_, (pss_cons (ps_set (i := 4) sc_law_first_true.nd rfl (Or.inr rfl) (pe_ix (x_ix K) (pe_dget (by exact hu1 hr) (pe_call D_law_true.G (hr.mono (by decide)) (by rfl) D_law_true.m D_law_true.k D_law_true.b D_law_true.v pass0 (pa_cons (pv 0) (pa_cons (pv 1) pa_nil))) (pv 3) (fun _ _ => rfl)) pe_int (fun _ _ => rfl)))
  (pss_cons (ps_setLc (i := 6) (own := [("ask", 5)]) (g := gName 5) rfl sc_law_first_true.nd rfl rfl (sw_true rfl rfl rfl (by decide +kernel)) (x_seq K (pv 2)) (blkOk_by (own := [("ask", 5)]) (N := N_law_first_true) (sc := defScope s_law_first_true) (by decide +kernel)) (fun _ _ _ _ _ => (pg_name (i := 5) sc_law_first_true.nd rfl (Or.inl rfl))) (fun _ _ _ _ _ => (pts_one (PW.pt (pw_and (pt_cmpR (x_eq K (by exact hr.units)) (pe_ix (x_ix K) (pv 5) pe_int (fun _ _ => rfl)) (pv 3) (nomark _)) (pw_and1 (pt_cmpR (x_eq K (by exact hr.units)) (pe_ix (x_ix K) (pv 5) pe_int (fun _ _ => rfl)) (pv 4) (nomark _))))))) (fun _ _ _ _ _ => (pe_ix (x_ix K) (pv 5) pe_int (fun _ _ => rfl))))
  (pss_one (ps_ret (pe_ifExp (pt_cmpR op_gt (pe_callB (x_len K) (by rfl) T.b_len (by decide +kernel) (pa_cons (pv 6) pa_nil)) pe_int (nomark _)) (pe_ix (x_ix K) (pv 6) pe_int (fun _ _ => rfl)) pe_non))))), ?_⟩
    show WS _ _ [.val (.lst (es.map evT)), .val (wD P w W), .val (.lst (asks.map askD)), .val (.str e.nm), .un, .un, .un] n _
    have hg := hT.g
    have fe := fit_nm hg he
    refine ws_cut (fun n1 ρ1 => n1 = n ∧ ρ1 = [.val (.lst (es.map evT)), .val (wD P w W), .val (.lst (asks.map askD)), .val (.str e.nm), .val (.tup ((e.needs.map V).map .int)), .un, .un]) ?_ ?_
    · refine ws_set (we_op (we_dget1 ?_))
      walk_at "go"
      refine ⟨es, W, V, rfl, hg, hT.w, hT.t, hT.b, ?_⟩
      walk_at "go"
      refine ⟨trD V e, tr_at hg V he, ?_⟩
      walk_at "go"
      exact ⟨rfl, rfl⟩
    rintro n1 ρ1 ⟨rfl, rfl⟩
    walk_at "ws1"
    refine ws_set (wf_we (wf_map beatD (isAskD e.nm (e.needs.map V)) (wi_seq ?_)))
    walk_at "we1"
    refine ⟨_, rfl, by rw [List.length_map]; omega, fun d hd m => ?_, ?_⟩
    · obtain ⟨a, ha, rfl⟩ := List.mem_map.mp hd
      have hp := isAsk_at e.nm (e.needs.map V) a
      walk_at "go"
      refine r2_eqD (hf a ha) fe.1 ?_
      rw [eq_str]
      refine ⟨_, rfl, dec2 (fun h1 => ?_) (fun h1 => ?_)⟩
      · walk_at "go"
        refine r2_eqD (fit_ints _) (fit_ints _) ?_
        rw [eq_tupI]
        refine ⟨_, rfl, rfl, ?_, fun _ => ?_⟩
        · rw [hp, Bool.decide_and, decide_eq_true h1, Bool.true_and]
        · walk_at "go"
          exact ⟨rfl, rfl⟩
      · refine ⟨rfl, ?_, fun z => nomatch z⟩
        rw [hp, decide_eq_false fun q => h1 q.1]
    rw [filt_to (isAsk_at e.nm (e.needs.map V)) (k := fun a : Ask => D.int a.beat) (fun a => rfl)]
    have hb := beat_head asks e.nm (e.needs.map V)
    generalize asks.filter (fun a => decide (a.nm = e.nm ∧ a.ks = e.needs.map V)) = B at hb ⊢
    walk_at "ws1"
    refine we_if ?_
    walk_at "go"
    rw [List.length_map]
    refine dec2 (fun h1 => ?_) (fun h1 => ?_)
    · walk_at "go"
      cases B with
      | nil => exact absurd h1 (by decide)
      | cons a l =>
        rw [← hb] at kk
        exact r2_ix (f := .int a.beat) (ixD_nat (j := 0) rfl) kk
    · walk_at "go"
      cases B with
      | nil =>
        rw [← hb] at kk
        exact kk
      | cons a l => exact absurd (show (0 : Int) < ((l.length + 1 : Nat) : Int) by omega) h1
def spLFF (P : Program) (w : World) : L3.Spec := fun bag n ds Φ => ∃ (es : List Toy.Ev) (W : Wd) (V : Str → Int) (asks : List Ask), ds = [.lst (es.map evT), wD P w W, .lst (asks.map askD)] ∧ TrueOk es W V ∧ asks.length ≤ 1000 ∧ (∀ a ∈ asks, a.nm ∈ es.map Toy.Ev.nm) ∧ Φ n (optN (falseF es V [] 0 asks))
abbrev s_law_first_false : Stmt := top 34
abbrev N_law_first_false : List Str := ["events", "world", "asks", "keys", "done", "place", "ask"]
theorem sc_law_first_false : FnScope N_law_first_false ["events", "world", "asks"] (defScope s_law_first_false) := ⟨rfl, rfl, rfl, by decide +kernel, rfl, by decide +kernel, by decide +kernel⟩

theorem ok_lff {f : Addr} {fd : FuncData} (F : Fun K "_law_first_false" "_law_first_false" s_law_first_false f fd) (T : Txt mg) (D_law_true : Dn P w K mg base "_law_true" 2 ["events", "world"] [] [] (spTrue P w)) (D_law_event : Dn P w K mg base "_law_event" 1 ["events", "name"] [] [] spLEv) : FnOk P w K mg base CX0 3 f fd ["events", "world", "asks"] (spD K (spLFF P w)) := by
  refine fn_D F sc_law_first_false (fun bag n ds Φ h => ?_) (fun cdv A outer s H Ex O bag n ds Φ hr h => ?_)
  · obtain ⟨es, W, V, asks, q, _⟩ := h
    rw [q]; rfl
  · obtain ⟨es, W, V, asks, q, hT, hl, hn, kk⟩ := h
    subst q
    refine ⟨_, (pss_cons (ps_set (i := 3) sc_law_first_false.nd rfl (Or.inl rfl) (pe_call D_law_true.G (hr.mono (by decide)) (by rfl) D_law_true.m D_law_true.k D_law_true.b D_law_true.v pass0 (pa_cons (pv 0) (pa_cons (pv 1) pa_nil))))
  (pss_cons (ps_set (i := 4) sc_law_first_false.nd rfl (Or.inl rfl) (pe_lst pa_nil))
  (pss_cons (ps_for PassesOwn.never rfl (x_enum K (by rfl) T.b_enumerate (pa_cons (pv 2) pa_nil)) (x_tgt K (pg_tup (by rfl) (pgs_cons (pg_name (i := 5) sc_law_first_false.nd rfl (Or.inl rfl)) (pgs_cons (pg_name (i := 6) sc_law_first_false.nd rfl (Or.inl rfl)) pgs_nil)))) (pss_one (ps_if (pt_cmpR (x_eq K (by exact hr.units)) (pe_ix (x_ix K) (pe_call D_law_event.G (hr.mono (by decide)) (by rfl) D_law_event.m D_law_event.k D_law_event.b D_law_event.v pass0 (pa_cons (pv 0) (pa_cons (pe_ix (x_ix K) (pv 6) pe_int (fun _ _ => rfl)) pa_nil))) pe_int (fun _ _ => rfl)) pe_str (nomark _)) (pss_cons (ps_if (PW.pt (pw_or (pt_cmpR (x_in K (by exact hu65 hr)) (pe_ix (x_ix K) (pv 6) pe_int (fun _ _ => rfl)) (pv 4) (by with_unfolding_all rfl)) (pw_or1 (pt_cmpR (x_ne K (by exact hr.units)) (pe_ix (x_ix K) (pv 6) pe_int (fun _ _ => rfl)) (pe_ix (x_ix K) (pe_dget (by exact hu1 hr) (pv 3) (pe_ix (x_ix K) (pv 6) pe_int (fun _ _ => rfl)) (fun _ _ => rfl)) pe_int (fun _ _ => rfl)) (nomark _))))) (pss_one (ps_ret (pv 5))) pss_nil)
  (pss_one (ps_expr (pe_bm PySem.F.plainAttrs_list PySem.F.slot_list_append PySem.F.type_list_append mt_append (pv 4) (pa_cons (pe_ix (x_ix K) (pv 6) pe_int (fun _ _ => rfl)) pa_nil))))) pss_nil)))
  (pss_one (ps_ret pe_non))))), ?_⟩
    show WS _ _ [.val (.lst (es.map evT)), .val (wD P w W), .val (.lst (asks.map askD)), .un, .un, .un, .un] n _
    have hg := hT.g
    have h12 := hg.1
    refine ws_cut (fun n1 ρ1 => n1 = n ∧ ρ1 = [.val (.lst (es.map evT)), .val (wD P w W), .val (.lst (asks.map askD)), .val (.dct (trK V es)), .un, .un, .un]) ?_ ?_
    · walk_at "ws1"
      walk_at "go"
      exact ⟨es, W, V, rfl, hg, hT.w, hT.t, hT.b, rfl, rfl⟩
    rintro n1 ρ1 ⟨rfl, rfl⟩
    walk_at "ws1"
    refine ws_own (i := 4) (Nat.le_of_ble_eq_true rfl) (wf_lst (wa_nil ⟨Nat.zero_le _, ?_⟩))
    walk_at "ws1"
    refine ws_for ?_
    refine wi_enum (wa_cons ?_)
    walk_at "we1"
    walk_at "we1"
    refine ⟨_, rfl, fun i m ρ => m = n1 ∧ ∃ (done : List Str) (x5 x6 : SD), done.length ≤ i ∧ (∀ x ∈ done, fit (.str x) = true) ∧ falseF es V [] 0 asks = falseF es V done i (asks.drop i) ∧ ρ = [.val (.lst (es.map evT)), .val (wD P w W), .val (.lst (asks.map askD)), .val (.dct (trK V es)), .own (done.map .str), x5, x6], ⟨rfl, [], _, _, Nat.zero_le _, (fun x hx => nomatch hx), rfl, rfl⟩, ?_, ?_⟩
    · rintro i m ρ1 d hd ⟨rfl, done, x5, x6, hdl, hdf, hF, rfl⟩
      obtain ⟨d1, hd1, rfl⟩ := enumD_get hd
      obtain ⟨a, ha, rfl, hm, tk⟩ := map_at hd1
      have hi : i < asks.length := (List.getElem?_eq_some_iff.mp ha).1
      obtain ⟨e, hem, hen⟩ := List.mem_map.mp (hn a hm)
      have fe := fit_nm hg hem
      have fa : fit (.str a.nm) = true := hen ▸ fe.1
      have hfd : es.find? (fun x => decide (x.nm = a.nm)) = some e := by rw [← hen]; exact find_nm hg hem
      rw [drop_at ha, false_cons] at hF
      have e0 : (0 : Int) + (i : Int) = (i : Int) := by omega
      rw [e0]
      walk_at "go"
      refine ws_if ?_
      walk_at "go"
      refine ⟨es, e, by rw [hen], hg, hem, ?_⟩
      walk_at "go"
      refine r2_eqD fe.2.1 (by decide +kernel) ?_
      rw [eq_str]
      refine ⟨_, rfl, dec2 (fun h1 => ?_) (fun h1 => ?_)⟩
      · have hact : actK es V a.nm = some (e.needs.map V) := by unfold actK; rw [hfd]; exact if_pos h1
        rw [hact] at hF
        dsimp only at hF
        have found : (a.nm ∈ done ∨ a.ks ≠ e.needs.map V) → Φ m (.int (i : Int)) := fun h => by
          rw [hF, if_pos h] at kk
          exact kk
        refine ws_seq (ws_if (wt_or (wt_look 4 rfl ?_)))
        walk_at "go"
        refine r2_in rfl fa (fit_strs hdf) ?_
        rw [inD_str]
        refine ⟨_, rfl, dec2 (fun h2 => ?_) (fun h2 => ?_)⟩
        · refine itT rfl ?_
          walk_at "ws1"
          walk_at "go"
          exact found (.inl h2)
        · walk_at "go"
          refine we_dget1 ?_
          walk_at "we1"
          refine ⟨_, rfl, ?_⟩
          walk_at "go"
          refine ⟨trD V e, by rw [← hen]; exact tr_at hg V hem, ?_⟩
          walk_at "go"
          refine r2_neD (fit_ints _) (fit_ints _) ?_
          rw [eq_tupI]
          refine ⟨_, rfl, decN (fun h3 => ?_) (fun h3 => ?_)⟩
          · walk_at "ws1"
            walk_at "go"
            exact found (.inr h3)
          · walk_at "ws1"
            refine ws_append (i := 4) (ds := done.map .str) rfl ?_
            walk_at "go"
            refine ⟨by rw [List.length_map, sizeLine_eq]; omega, rfl, done ++ [a.nm], .val (.int (i : Int)), .val (askD a), by rw [List.length_append]; show _ + 1 ≤ _; omega, fun x hx => ?_, ?_, ?_⟩
            · rcases List.mem_append.mp hx with q | q
              · exact hdf x q
              · rw [List.mem_singleton.mp q]; exact fa
            · rw [hF, if_neg (fun q => q.elim h2 fun z => z h3)]
            · rw [List.map_append]; rfl
      · have hact : actK es V a.nm = none := by unfold actK; rw [hfd]; exact if_neg h1
        rw [hact] at hF
        dsimp only at hF
        walk_at "ws1"
        exact ⟨rfl, done, .val (.int (i : Int)), .val (askD a), by omega, hdf, hF, rfl⟩
    · rintro m ρ1 ⟨rfl, done, x5, x6, hdl, hdf, hF, rfl⟩
      rw [enumD_len, List.length_map, List.drop_length] at hF
      walk_at "ws1"
      walk_at "go"
      rw [hF] at kk
      exact kk

end
end Toy
namespace Toy
open PySem L2 L3
local macro_rules | `(tactic| walk_at "we1") => `(tactic| first
  | ((with_reducible refine' we_var ?hv ?_); (case hv => rfl))
  | (with_reducible refine we_int ?_)
  | (with_reducible refine we_str ?_)
  | (with_reducible refine we_bl ?_)
  | (with_reducible refine we_non ?_)
  | ((with_reducible refine' we_dix ?hv ?_); (case hv => rfl))
  | (with_reducible refine we_op ?_)
  | ((with_reducible refine' we_dget ?hv ?_); (case hv => rfl))
  | (with_reducible refine we_count ?_)
  | (with_reducible refine we_cb ?_)
  | (with_reducible refine we_call0 ?_)
  | (with_reducible refine we_tup ?_)
  | (with_reducible refine we_lst ?_)
  | (with_reducible refine we_if ?_)
  | (with_reducible refine we_not ?_)
  | (with_reducible refine we_and ?_)
  | (with_reducible refine we_or ?_)
  | (with_reducible refine we_isN ?_)
  | (with_reducible refine we_notN ?_)
  | (with_reducible refine we_sl ?_)
  | (with_reducible refine wa_cons ?_)
  | (with_reducible refine wa_nil ?_)
  | (with_reducible refine wt_test ?_)
  | (with_reducible refine wt_B ?_)
  | (with_reducible refine wt_and ?_)
  | (with_reducible refine wt_or ?_)
  | (with_reducible refine wt_not ?_)
  | (with_reducible refine wt_yes ?_)
  | (with_reducible refine wo_none ?_)
  | (with_reducible refine wo_some ?_)
  | ((with_reducible refine' r2_ix ?hx ?_); (case hx => rfl))
  | (with_reducible refine r2_isN ?_)
  | (with_reducible refine r2_notN ?_)
  | (with_reducible refine r2_lt ?_)
  | (with_reducible refine r2_le ?_)
  | (with_reducible refine r2_gt ?_)
  | (with_reducible refine r2_ge ?_)
  | (with_reducible refine r2_sub ?_)
  | (with_reducible refine r2_addI ?_)
  | (with_reducible refine r2_eqI ?_)
  | (with_reducible refine r2_neI ?_)
  | (with_reducible refine rc_int ?_)
  | (with_reducible refine rc_abs ?_)
  | ((with_reducible refine' rc_len ?hl ?_); (case hl => rfl))
  | (with_reducible refine wi_seq ?_)
  | (with_reducible refine wi_rng1 ?_)
  | (with_reducible refine wi_rng2 ?_)
  | (with_reducible refine wi_enum ?_)
  | (refine ⟨_, rfl, ?_⟩))
local macro_rules | `(tactic| walk_at "ws1") => `(tactic| first
  | (with_reducible refine ws_seq ?_)
  | (with_reducible refine ws_set ?_)
  | (with_reducible refine ws_ret ?_)
  | (with_reducible refine ws_if ?_)
  | (with_reducible refine ws_next ?_)
  | (with_reducible refine ws_asg ?_))
local macro_rules | `(tactic| walk_at "wg1") => `(tactic| first
  | (with_reducible refine wg_name (rw_name (by decide)) ?_)
  | (with_reducible refine wg_name (fun _ _ => trivial) ?_)
  | ((with_reducible refine' wg_tup ?hl ?_); (case hl => rfl))
  | (with_reducible refine wgs_cons rw_trans ?_)
  | (with_reducible refine wgs_nil rw_refl ?_)
  | (with_reducible refine wgs_cons (fun _ _ _ _ _ => trivial) ?_)
  | (with_reducible refine wgs_nil (fun _ => trivial) ?_))
local macro_rules | `(tactic| walk_at "go") => `(tactic| repeat' (first | walk_at "we1" | walk_at "wg1"))
section
variable {P : Program} {w : World} {K : PySem.W.Frag} {mg : Str → Option Value} {base : Heap}
/-! ### a log by digits -/
theorem fourL {r : Int} (h0 : 0 ≤ r) (h6 : r < 4) : r = 0 ∨ r = 1 ∨ r = 2 ∨ r = 3 := by omega
def okN (es : List Toy.Ev) (asks : List Ask) : Prop := ∀ a ∈ asks, a.nm = "nobody" ∨ a.nm ∈ es.map Toy.Ev.nm
theorem okN_snoc {es : List Toy.Ev} {asks : List Ask} (h : okN es asks) {a : Ask} (ha : a.nm = "nobody" ∨ a.nm ∈ es.map Toy.Ev.nm) : okN es (asks ++ [a]) := fun x hx => by
  rcases List.mem_append.mp hx with q | q
  · exact h x q
  · rw [List.mem_singleton.mp q]; exact ha
theorem okN_drop {es : List Toy.Ev} {asks : List Ask} (h : okN es asks) : okN es asks.dropLast := fun x hx => h x (List.dropLast_subset _ hx)
theorem ask_snoc (asks : List Ask) (a : Ask) : (asks ++ [a]).map askD = asks.map askD ++ [askD a] := by rw [List.map_append]; rfl
theorem noLst_ask (a : Ask) : noLst (askD a) = true := by
  have h : ∀ l : List Int, noLstAll (l.map D.int) = true := fun l => by
    induction l with
    | nil => rfl
    | cons x l ih => exact ih
  show noLstAll [.int a.beat, .int a.at_, .str a.nm, .tup (a.ks.map .int), .int a.v] = true
  show (true && (true && (true && (noLstAll (a.ks.map .int) && (true && true))))) = true
  rw [h]; rfl
def spLog (P : Program) (w : World) : L3.Spec := fun bag n ds Φ => ∃ (b q : Addr) (es : List Toy.Ev) (W : Wd) (V : Str → Int), bag = some (b, q) ∧ ds = [.adr b, .lst (es.map evT), wD P w W] ∧ TrueOk es W V ∧ 0 < es.length ∧ n + 400 < 2 ^ 60 ∧
  ∀ asks n', asks.length ≤ 14 → okN es asks → n' ≤ n + 400 → Φ n' (.lst (asks.map askD))
abbrev s_law_log : Stmt := top 37
abbrev N_law_log : List Str := ["bag", "events", "world", "keys", "asks", "beat", "turn", "event", "key", "kind", "need", "again", "last"]
theorem sc_law_log : FnScope N_law_log ["bag", "events", "world"] (defScope s_law_log) := ⟨rfl, rfl, rfl, by decide +kernel, rfl, by decide +kernel, by decide +kernel⟩

theorem ok_log {f : Addr} {fd : FuncData} (F : Fun K "_law_log" "_law_log" s_law_log f fd) (T : Txt mg) (D_law_draw : Dn P w K mg base "_law_draw" 1 ["bag", "limit"] [] [] spDraw) (D_law_true : Dn P w K mg base "_law_true" 2 ["events", "world"] [] [] (spTrue P w)) (D_law_answer : Dn P w K mg base "_law_answer" 1 ["world", "name", "key"] [] [] (spAns P w)) : FnOk P w K mg base CX0 3 f fd ["bag", "events", "world"] (spD K (spLog P w)) := by
  refine fn_D F sc_law_log (fun bag n ds Φ h => ?_) (fun cdv A outer s H Ex O bag n ds Φ hr h => ?_)
  · obtain ⟨b, q, es, W, V, _, e, _⟩ := h
    rw [e]; rfl
  · obtain ⟨b, q, es, W, V, eb, e, hT, h0, hn, kk⟩ := h
    subst eb; subst e
    refine ⟨_, (pss_cons (ps_set (i := 3) sc_law_log.nd rfl (Or.inl rfl) (pe_call D_law_true.G (hr.mono (by decide)) (by rfl) D_law_true.m D_law_true.k D_law_true.b D_law_true.v pass0 (pa_cons (pv 1) (pa_cons (pv 2) pa_nil))))
  (pss_cons (ps_set (i := 4) sc_law_log.nd rfl (Or.inl rfl) (pe_lst pa_nil))
  (pss_cons (ps_set (i := 5) sc_law_log.nd rfl (Or.inl rfl) pe_int)
  (pss_cons (ps_for PassesOwn.never rfl (pi_range1 (by rfl) T.b_range (pa_cons (pe_call D_law_draw.G (hr.mono (by decide)) (by rfl) D_law_draw.m D_law_draw.k D_law_draw.b D_law_draw.v pass0 (pa_cons (pv 0) (pa_cons pe_int pa_nil))) pa_nil)) (pg_name (i := 6) sc_law_log.nd rfl (Or.inl rfl)) (pss_cons (ps_set (i := 5) sc_law_log.nd rfl (Or.inl rfl) (pe_op (x_add K) (pv 5) (pe_ix (x_ix K) (pe_lst (pa_cons pe_int (pa_cons pe_int (pa_cons pe_int (pa_cons pe_int pa_nil))))) (pe_call D_law_draw.G (hr.mono (by decide)) (by rfl) D_law_draw.m D_law_draw.k D_law_draw.b D_law_draw.v pass0 (pa_cons (pv 0) (pa_cons pe_int pa_nil))) (fun _ _ => rfl))))
  (pss_cons (ps_set (i := 7) sc_law_log.nd rfl (Or.inl rfl) (pe_ix (x_ix K) (pv 1) (pe_call D_law_draw.G (hr.mono (by decide)) (by rfl) D_law_draw.m D_law_draw.k D_law_draw.b D_law_draw.v pass0 (pa_cons (pv 0) (pa_cons (pe_callB (x_len K) (by rfl) T.b_len (by decide +kernel) (pa_cons (pv 1) pa_nil)) pa_nil))) (fun _ _ => rfl)))
  (pss_cons (ps_set (i := 8) sc_law_log.nd rfl (Or.inl rfl) (pe_ix (x_ix K) (pe_dget (by exact hu1 hr) (pv 3) (pe_ix (x_ix K) (pv 7) pe_int (fun _ _ => rfl)) (fun _ _ => rfl)) pe_int (fun _ _ => rfl)))
  (pss_cons (ps_set (i := 9) sc_law_log.nd rfl (Or.inl rfl) (pe_call D_law_draw.G (hr.mono (by decide)) (by rfl) D_law_draw.m D_law_draw.k D_law_draw.b D_law_draw.v pass0 (pa_cons (pv 0) (pa_cons pe_int pa_nil))))
  (pss_cons (ps_if (pt_cmpR op_lt (pv 9) pe_int (nomark _)) (pss_one (ps_set (i := 8) sc_law_log.nd rfl (Or.inl rfl) (pe_callTy (x_tup K) (by rfl) T.b_tuple (by decide +kernel) (pa_cons (pe_lc (own := [("need", 10)]) (g := gName 10) (tt := tYes) rfl sc_law_log.nd (x_seq K (pe_ix (x_ix K) (pv 7) pe_int (fun _ _ => rfl))) (blkOk_by (own := [("need", 10)]) (N := N_law_log) (sc := defScope s_law_log) (by decide +kernel)) (fun _ _ _ _ _ => (pg_name (i := 10) sc_law_log.nd rfl (Or.inl rfl))) (fun _ _ _ _ _ => pts_nil) (fun _ _ _ _ _ => (pe_call D_law_draw.G (hr.mono (by decide)) (by rfl) D_law_draw.m D_law_draw.k D_law_draw.b D_law_draw.v pass0 (pa_cons (pv 0) (pa_cons pe_int pa_nil))))) pa_nil)))) pss_nil)
  (pss_cons (ps_if (PW.pt (pw_and (pt_cmpR (x_eq K (by exact hr.units)) (pv 9) pe_int (nomark _)) (pw_and1 (pt_cmpR op_gt (pe_callB (x_len K) (by rfl) T.b_len (by decide +kernel) (pa_cons (pv 4) pa_nil)) pe_int (nomark _))))) (pss_cons (ps_set (i := 11) sc_law_log.nd rfl (Or.inl rfl) (pe_ix (x_ix K) (pv 4) (pe_call D_law_draw.G (hr.mono (by decide)) (by rfl) D_law_draw.m D_law_draw.k D_law_draw.b D_law_draw.v pass0 (pa_cons (pv 0) (pa_cons (pe_callB (x_len K) (by rfl) T.b_len (by decide +kernel) (pa_cons (pv 4) pa_nil)) pa_nil))) (fun _ _ => rfl)))
  (pss_one (ps_expr (pe_bm PySem.F.plainAttrs_list PySem.F.slot_list_append PySem.F.type_list_append mt_append (pv 4) (pa_cons (pe_tup (pa_cons (pv 5) (pa_cons (pe_ix (x_ix K) (pv 11) pe_int (fun _ _ => rfl)) (pa_cons (pe_ix (x_ix K) (pv 11) pe_int (fun _ _ => rfl)) (pa_cons (pe_ix (x_ix K) (pv 11) pe_int (fun _ _ => rfl)) (pa_cons (pe_ix (x_ix K) (pv 11) pe_int (fun _ _ => rfl)) pa_nil)))))) pa_nil))))) (pss_one (ps_if (pt_cmpR (x_eq K (by exact hr.units)) (pv 9) pe_int (nomark _)) (pss_one (ps_expr (pe_bm PySem.F.plainAttrs_list PySem.F.slot_list_append PySem.F.type_list_append mt_append (pv 4) (pa_cons (pe_tup (pa_cons (pv 5) (pa_cons (pe_ix (x_ix K) (pv 7) pe_int (fun _ _ => rfl)) (pa_cons pe_str (pa_cons (pv 8) (pa_cons pe_int pa_nil)))))) pa_nil)))) (pss_one (ps_expr (pe_bm PySem.F.plainAttrs_list PySem.F.slot_list_append PySem.F.type_list_append mt_append (pv 4) (pa_cons (pe_tup (pa_cons (pv 5) (pa_cons (pe_ix (x_ix K) (pv 7) pe_int (fun _ _ => rfl)) (pa_cons (pe_ix (x_ix K) (pv 7) pe_int (fun _ _ => rfl)) (pa_cons (pv 8) (pa_cons (pe_call D_law_answer.G (hr.mono (by decide)) (by rfl) D_law_answer.m D_law_answer.k D_law_answer.b D_law_answer.v pass0 (pa_cons (pv 2) (pa_cons (pe_ix (x_ix K) (pv 7) pe_int (fun _ _ => rfl)) (pa_cons (pv 8) pa_nil)))) pa_nil)))))) pa_nil)))))))
  (pss_one (ps_if (PW.pt (pw_and (pt_cmpR (x_eq K (by exact hr.units)) (pe_call D_law_draw.G (hr.mono (by decide)) (by rfl) D_law_draw.m D_law_draw.k D_law_draw.b D_law_draw.v pass0 (pa_cons (pv 0) (pa_cons pe_int pa_nil))) pe_int (nomark _)) (pw_and1 (pt_cmpR op_gt (pe_callB (x_len K) (by rfl) T.b_len (by decide +kernel) (pa_cons (pv 4) pa_nil)) pe_int (nomark _))))) (pss_cons (ps_set (i := 12) sc_law_log.nd rfl (Or.inl rfl) (x_bm0 (pe_bm0 PySem.F.plainAttrs_list PySem.F.slot_list_pop PySem.F.type_list_pop mt_pop (pv 4))))
  (pss_one (ps_expr (pe_bm PySem.F.plainAttrs_list PySem.F.slot_list_append PySem.F.type_list_append mt_append (pv 4) (pa_cons (pe_tup (pa_cons (pe_ix (x_ix K) (pv 12) pe_int (fun _ _ => rfl)) (pa_cons (pe_op (x_add K) pe_int (pe_call D_law_draw.G (hr.mono (by decide)) (by rfl) D_law_draw.m D_law_draw.k D_law_draw.b D_law_draw.v pass0 (pa_cons (pv 0) (pa_cons pe_int pa_nil)))) (pa_cons (pe_ix (x_ix K) (pv 12) pe_int (fun _ _ => rfl)) (pa_cons (pe_ix (x_ix K) (pv 12) pe_int (fun _ _ => rfl)) (pa_cons (pe_op op_sub (pe_call D_law_draw.G (hr.mono (by decide)) (by rfl) D_law_draw.m D_law_draw.k D_law_draw.b D_law_draw.v pass0 (pa_cons (pv 0) (pa_cons pe_int pa_nil))) pe_int) pa_nil)))))) pa_nil))))) pss_nil)))))))))
  (pss_one (ps_ret (pv 4))))))), ?_⟩
    show WS _ _ [.val (.adr b), .val (.lst (es.map evT)), .val (wD P w W), .un, .un, .un, .un, .un, .un, .un, .un, .un, .un] n _
    have hg := hT.g
    have h12 := hg.1
    refine ws_cut (fun n1 ρ1 => n1 = n ∧ ρ1 = [.val (.adr b), .val (.lst (es.map evT)), .val (wD P w W), .val (.dct (trK V es)), .un, .un, .un, .un, .un, .un, .un, .un, .un]) ?_ ?_
    · walk_at "ws1"
      walk_at "go"
      exact ⟨es, W, V, rfl, hg, hT.w, hT.t, hT.b, rfl, rfl⟩
    rintro n1 ρ1 ⟨rfl, rfl⟩
    walk_at "ws1"
    refine ws_own (i := 4) (Nat.le_of_ble_eq_true rfl) (wf_lst (wa_nil ⟨Nat.zero_le _, ?_⟩))
    walk_at "ws1"
    walk_at "ws1"
    walk_at "go"
    refine ws_cut2 (Nx := fun n2 ρ1 => n2 ≤ n1 + 400 ∧ ∃ (asks : List Ask) (x5 x6 x7 x8 x9 x10 x11 x12 : SD), asks.length ≤ 14 ∧ okN es asks ∧ ρ1 = [.val (.adr b), .val (.lst (es.map evT)), .val (wD P w W), .val (.dct (trK V es)), .own (asks.map askD), x5, x6, x7, x8, x9, x10, x11, x12]) ?_ ?_
    · refine ws_for ?_
      walk_at "go"
      refine ⟨b, q, _, rfl, rfl, by decide, by decide, by omega, fun r h0 h4 => ?_⟩
      obtain ⟨c, rfl⟩ : ∃ c : Nat, r = (c : Int) := ⟨r.toNat, by omega⟩
      refine wa_nil ⟨_, rfl, by omega, by omega, ?_⟩
      have hcn : ((c : Nat) : Int).toNat = c := by omega
      rw [hcn]
      refine ⟨fun i m ρ => m ≤ n1 + 1 + 20 * i ∧ ∃ (asks : List Ask) (bt : Int) (x6 x7 x8 x9 x10 x11 x12 : SD), asks.length ≤ i ∧ okN es asks ∧ ρ = [.val (.adr b), .val (.lst (es.map evT)), .val (wD P w W), .val (.dct (trK V es)), .own (asks.map askD), .val (.int bt), x6, x7, x8, x9, x10, x11, x12], ⟨by omega, [], 0, .un, .un, .un, .un, .un, .un, .un, Nat.le_refl _, (fun a h => nomatch h), rfl⟩, ?_, ?_⟩
      · rintro i m ρ1 d hd ⟨hm, asks, bt, x6, x7, x8, x9, x10, x11, x12, hal, han, rfl⟩
        obtain ⟨hi, rfl⟩ := rangeD_get hd
        have e0 : (0 : Int) + (i : Int) = (i : Int) := by omega
        rw [e0]
        walk_at "wg1"
        -- beat
        refine ws_cut (fun n2 ρ1 => n2 = m + 1 ∧ ∃ (bt : Int), ρ1 = [.val (.adr b), .val (.lst (es.map evT)), .val (wD P w W), .val (.dct (trK V es)), .own (asks.map askD), .val (.int bt), .val (.int (i : Int)), x7, x8, x9, x10, x11, x12]) ?_ ?_
        · walk_at "ws1"
          walk_at "go"
          refine ⟨Nat.le_of_ble_eq_true rfl, ?_⟩
          walk_at "go"
          refine ⟨b, q, _, rfl, rfl, by decide, by decide, by omega, fun r h0 h4 => ?_⟩
          have h6 : ∃ c : Int, ixD (.lst [.int 0, .int 0, .int 1, .int 2]) r = some (.int c) := by
            obtain rfl | rfl | rfl | rfl := fourL h0 h4
            · exact ⟨0, rfl⟩
            · exact ⟨0, rfl⟩
            · exact ⟨1, rfl⟩
            · exact ⟨2, rfl⟩
          obtain ⟨c, hc⟩ := h6
          refine r2_ix hc ?_
          walk_at "go"
          exact ⟨rfl, _, rfl⟩
        rintro n2 ρ1 ⟨rfl, bt, rfl⟩
        -- event
        refine ws_cut (fun n2 ρ1 => n2 = m + 2 ∧ ∃ e : Toy.Ev, e ∈ es ∧ ρ1 = [.val (.adr b), .val (.lst (es.map evT)), .val (wD P w W), .val (.dct (trK V es)), .own (asks.map askD), .val (.int bt), .val (.int (i : Int)), .val (evT e), x8, x9, x10, x11, x12]) ?_ ?_
        · walk_at "ws1"
          walk_at "go"
          rw [List.length_map]
          refine ⟨b, q, _, rfl, rfl, by omega, by omega, by omega, fun r h0 h4 => ?_⟩
          obtain ⟨k, rfl⟩ : ∃ k : Nat, r = (k : Int) := ⟨r.toNat, by omega⟩
          have hk : k < es.length := by omega
          have hx : es[k]? = some es[k] := List.getElem?_eq_getElem hk
          refine r2_ix (f := evT es[k]) (ixD_nat (by rw [List.getElem?_map, hx]; rfl)) ?_
          exact ⟨rfl, es[k], List.getElem_mem hk, rfl⟩
        rintro n2 ρ1 ⟨rfl, e, hem, rfl⟩
        have fe := fit_nm hg hem
        -- key, kind
        refine ws_cut (fun n2 ρ1 => n2 = m + 2 ∧ ρ1 = [.val (.adr b), .val (.lst (es.map evT)), .val (wD P w W), .val (.dct (trK V es)), .own (asks.map askD), .val (.int bt), .val (.int (i : Int)), .val (evT e), .val (.tup ((e.needs.map V).map .int)), x9, x10, x11, x12]) ?_ ?_
        · refine ws_set (we_op (we_dget1 ?_))
          walk_at "go"
          refine ⟨trD V e, tr_at hg V hem, ?_⟩
          walk_at "go"
          exact ⟨rfl, rfl⟩
        rintro n2 ρ1 ⟨rfl, rfl⟩
        refine ws_cut (fun n2 ρ1 => n2 = m + 3 ∧ ∃ kd : Int, ρ1 = [.val (.adr b), .val (.lst (es.map evT)), .val (wD P w W), .val (.dct (trK V es)), .own (asks.map askD), .val (.int bt), .val (.int (i : Int)), .val (evT e), .val (.tup ((e.needs.map V).map .int)), .val (.int kd), x10, x11, x12]) ?_ ?_
        · walk_at "ws1"
          walk_at "go"
          refine ⟨b, q, _, rfl, rfl, by decide, by decide, by omega, fun r h0 h4 => ?_⟩
          exact ⟨rfl, r, rfl⟩
        rintro n2 ρ1 ⟨rfl, kd, rfl⟩
        have hkt : small (2 ^ 200) (e.needs.map V) := ⟨by rw [List.length_map]; exact fe.2.2.1, fun k hk => by
          obtain ⟨x, _, rfl⟩ := List.mem_map.mp hk
          exact Nat.le_trans (hT.b x) (Nat.pow_le_pow_right (by decide) (by decide))⟩
        refine ws_cut2 (Nx := fun n2 ρ1 => n2 ≤ m + 6 ∧ ∃ (ks : List Int) (x10 : SD), small (2 ^ 200) ks ∧ ρ1 = [.val (.adr b), .val (.lst (es.map evT)), .val (wD P w W), .val (.dct (trK V es)), .own (asks.map askD), .val (.int bt), .val (.int (i : Int)), .val (evT e), .val (.tup (ks.map .int)), .val (.int kd), x10, x11, x12]) ?_ ?_
        · refine ws_if ?_
          walk_at "go"
          refine dec2 (fun h1 => ?_) (fun h1 => ?_)
          · walk_at "ws1"
            refine we_cb (wa_cons (wf_we (wf_lc (wi_seq ?_))))
            walk_at "go"
            refine ⟨fun k m1 acc => m1 = m + 3 + k ∧ ∃ ks : List Int, acc = ks.map .int ∧ ks.length = k ∧ ∀ x ∈ ks, x.natAbs ≤ 2 ^ 200, ⟨rfl, [], rfl, rfl, fun x hx => nomatch hx⟩, fun k m1 acc d hd ⟨e1, ks, e2, e3, e4⟩ => ?_, fun m1 acc ⟨e1, ks, e2, e3, e4⟩ => ?_⟩
            · subst e1; subst e2
              have hk : k < e.needs.length := by
                have := (List.getElem?_eq_some_iff.mp hd).1
                rwa [List.length_map] at this
              walk_at "go"
              refine itT rfl ?_
              walk_at "go"
              refine ⟨b, q, _, rfl, rfl, by decide, by decide, by omega, fun r h0 h4 => ?_⟩
              refine ⟨by rw [List.length_map, sizeLine_eq]; have := fe.2.2.1; omega, by omega, ks ++ [r], by rw [List.map_append]; rfl, by rw [List.length_append, e3]; rfl, fun x hx => ?_⟩
              rcases List.mem_append.mp hx with z | z
              · exact e4 x z
              · rw [List.mem_singleton.mp z]
                exact Nat.le_trans (by omega : r.natAbs ≤ 3) (by decide)
            · subst e1; subst e2
              rw [List.length_map] at e3
              have := fe.2.2.1
              refine wa_nil (rc_tup rfl ?_)
              exact ⟨by rw [List.length_map]; omega, ks, _, ⟨by omega, e4⟩, rfl⟩
          · walk_at "ws1"
            exact ⟨by omega, _, x10, hkt, rfl⟩
        clear x10
        rintro n2 ρ1 ⟨hn2, ks, x10, hks, rfl⟩
        -- the ask
        refine ws_cut2 (Nx := fun n3 ρ1 => n3 ≤ m + 8 ∧ ∃ (asks : List Ask) (x11 : SD), asks.length ≤ i + 1 ∧ okN es asks ∧ ρ1 = [.val (.adr b), .val (.lst (es.map evT)), .val (wD P w W), .val (.dct (trK V es)), .own (asks.map askD), .val (.int bt), .val (.int (i : Int)), .val (evT e), .val (.tup (ks.map .int)), .val (.int kd), x10, x11, x12]) ?_ ?_
        · have put : ∀ (a : Ask) (n3 : Nat) (x11 : SD), n3 ≤ m + 8 → (a.nm = "nobody" ∨ a.nm ∈ es.map Toy.Ev.nm) → ((asks.map askD).length < sizeLine) ∧ (fun (n3 : Nat) (ρ1 : List SD) => n3 ≤ m + 8 ∧ ∃ (asks : List Ask) (x11 : SD), asks.length ≤ i + 1 ∧ okN es asks ∧ ρ1 = [.val (.adr b), .val (.lst (es.map evT)), .val (wD P w W), .val (.dct (trK V es)), .own (asks.map askD), .val (.int bt), .val (.int (i : Int)), .val (evT e), .val (.tup (ks.map .int)), .val (.int kd), x10, x11, x12]) n3 [.val (.adr b), .val (.lst (es.map evT)), .val (wD P w W), .val (.dct (trK V es)), .own (asks.map askD ++ [askD a]), .val (.int bt), .val (.int (i : Int)), .val (evT e), .val (.tup (ks.map .int)), .val (.int kd), x10, x11, x12] := fun a n3 x11 h1 h2 =>
            ⟨by rw [List.length_map, sizeLine_eq]; omega, h1, asks ++ [a], x11, by rw [List.length_append]; show asks.length + 1 ≤ _; omega, okN_snoc han h2, by rw [ask_snoc]⟩
          refine ws_if (WT.mono (Φ := fun n b => n = n2 ∧ (b = true → 0 < asks.length)) (wt_look 4 rfl ?_) ?_)
          · walk_at "go"
            refine dec2 (fun h1 => ?_) (fun h1 => ?_)
            · walk_at "go"
              rw [List.length_map]
              exact ⟨rfl, fun z => by have := of_decide_eq_true z; omega⟩
            · exact ⟨rfl, fun z => nomatch z⟩
          rintro n2 bb ⟨rfl, hb⟩
          cases bb with
          | true =>
            have h2 := hb rfl
            rw [if_pos rfl]
            refine ws_cut (fun n3 ρ1 => n3 = n2 + 1 ∧ ∃ a : Ask, a ∈ asks ∧ ρ1 = [.val (.adr b), .val (.lst (es.map evT)), .val (wD P w W), .val (.dct (trK V es)), .own (asks.map askD), .val (.int bt), .val (.int (i : Int)), .val (evT e), .val (.tup (ks.map .int)), .val (.int kd), x10, .val (askD a), x12]) ?_ ?_
            · refine ws_set (we_lookT 4 rfl ?_)
              walk_at "go"
              rw [List.length_map]
              refine ⟨b, q, _, rfl, rfl, by omega, by omega, by omega, fun r h0 h4 => ?_⟩
              obtain ⟨k, rfl⟩ : ∃ k : Nat, r = (k : Int) := ⟨r.toNat, by omega⟩
              have hk : k < asks.length := by omega
              have hx : asks[k]? = some asks[k] := List.getElem?_eq_getElem hk
              refine r2_ix (f := askD asks[k]) (ixD_nat (by rw [List.getElem?_map, hx]; rfl)) ?_
              exact ⟨noLst_ask _, rfl, asks[k], List.getElem_mem hk, rfl⟩
            rintro n3 ρ1 ⟨rfl, a, ha, rfl⟩
            refine ws_append (i := 4) (ds := asks.map askD) rfl ?_
            walk_at "go"
            refine ⟨Nat.le_of_ble_eq_true rfl, ?_⟩
            exact put ⟨bt, a.at_, a.nm, a.ks, a.v⟩ _ (.val (askD a)) (by omega) (han a ha)
          | false =>
            rw [if_neg Bool.false_ne_true]
            refine ws_if ?_
            walk_at "go"
            refine dec2 (fun h1 => ?_) (fun h1 => ?_)
            · refine ws_append (i := 4) (ds := asks.map askD) rfl ?_
              walk_at "go"
              refine ⟨Nat.le_of_ble_eq_true rfl, ?_⟩
              exact put ⟨bt, e.at_, "nobody", ks, 0⟩ n2 x11 (by omega) (.inl rfl)
            · refine ws_append (i := 4) (ds := asks.map askD) rfl ?_
              walk_at "go"
              refine ⟨W, e.nm, ks, rfl, hT.w, hks, ?_⟩
              walk_at "go"
              refine ⟨Nat.le_of_ble_eq_true rfl, ?_⟩
              exact put ⟨bt, e.at_, e.nm, ks, ans W e.nm ks⟩ n2 x11 (by omega) (.inr (List.mem_map.mpr ⟨e, hem, rfl⟩))
        clear hal han asks x11
        rintro n3 ρ1 ⟨hn3, asks, x11, hal, han, rfl⟩
        have fin : ∀ (asks : List Ask) (x12 : SD) (m' : Nat), m' ≤ m + 20 → asks.length ≤ i + 1 → okN es asks → (fun (i m : Nat) (ρ : List SD) => m ≤ n1 + 1 + 20 * i ∧ ∃ (asks : List Ask) (bt : Int) (x6 x7 x8 x9 x10 x11 x12 : SD), asks.length ≤ i ∧ okN es asks ∧ ρ = [.val (.adr b), .val (.lst (es.map evT)), .val (wD P w W), .val (.dct (trK V es)), .own (asks.map askD), .val (.int bt), x6, x7, x8, x9, x10, x11, x12]) (i + 1) m' [.val (.adr b), .val (.lst (es.map evT)), .val (wD P w W), .val (.dct (trK V es)), .own (asks.map askD), .val (.int bt), .val (.int (i : Int)), .val (evT e), .val (.tup (ks.map .int)), .val (.int kd), x10, x11, x12] := fun asks x12 m' h1 h2 h3 => ⟨by omega, asks, bt, _, _, _, _, _, _, _, h2, h3, rfl⟩
        refine ws_if (wt_look 4 rfl ?_)
        walk_at "go"
        refine ⟨b, q, _, rfl, rfl, by decide, by decide, by omega, fun r h0 h4 => ?_⟩
        walk_at "go"
        refine dec2 (fun h1 => ?_) (fun h1 => ?_)
        · walk_at "go"
          rw [List.length_map]
          refine dec2 (fun h2 => ?_) (fun h2 => ?_)
          · have hl : asks.length - 1 < asks.length := by omega
            refine ws_seq (ws_popSet (j := 4) (es := asks.map askD) (y := askD asks[asks.length - 1]) rfl ?_ ?_)
            · rw [List.length_map, List.getElem?_map, List.getElem?_eq_getElem hl]; rfl
            generalize ha : asks[asks.length - 1] = a
            have hm : a ∈ asks := by rw [← ha]; exact List.getElem_mem hl
            rw [← List.map_dropLast]
            refine ws_append (i := 4) (ds := asks.dropLast.map askD) rfl ?_
            walk_at "go"
            refine ⟨b, q, _, rfl, rfl, by decide, by decide, by omega, fun r1 h01 h41 => ?_⟩
            walk_at "go"
            refine ⟨b, q, _, rfl, rfl, by decide, by decide, by omega, fun r2 h02 h42 => ?_⟩
            walk_at "go"
            refine ⟨Nat.le_of_ble_eq_true rfl, ?_⟩
            have hdl : asks.dropLast.length = asks.length - 1 := List.length_dropLast
            refine ⟨by rw [List.length_map, sizeLine_eq]; omega, ?_⟩
            have := fin (asks.dropLast ++ [(⟨a.beat, 1 + r1, a.nm, a.ks, r2 - 4⟩ : Ask)]) (.val (askD a)) (n3 + 1 + 1 + 1) (by omega) (by rw [List.length_append, hdl]; show asks.length - 1 + 1 ≤ _; omega) (okN_snoc (okN_drop han) (han a hm))
            rw [ask_snoc] at this
            exact this
          · walk_at "ws1"
            exact fin asks x12 _ (by omega) hal han
        · refine itF rfl ?_
          walk_at "ws1"
          exact fin asks x12 _ (by omega) hal han
      · rintro m ρ1 ⟨hm, asks, bt, x6, x7, x8, x9, x10, x11, x12, hal, han, rfl⟩
        rw [rangeD_len] at hm hal
        exact ⟨by omega, asks, _, _, _, _, _, _, _, _, by omega, han, rfl⟩
    rintro n2 ρ1 ⟨hn2, asks, x5, x6, x7, x8, x9, x10, x11, x12, hal, han, rfl⟩
    refine ws_freeze 4 rfl ?_
    walk_at "ws1"
    walk_at "go"
    exact kk asks n2 hal han hn2

end
end Toy
namespace Toy
open PySem L2 L3
local macro_rules | `(tactic| walk_at "we1") => `(tactic| first
  | ((with_reducible refine' we_var ?hv ?_); (case hv => rfl))
  | (with_reducible refine we_int ?_)
  | (with_reducible refine we_str ?_)
  | (with_reducible refine we_bl ?_)
  | (with_reducible refine we_non ?_)
  | ((with_reducible refine' we_dix ?hv ?_); (case hv => rfl))
  | (with_reducible refine we_op ?_)
  | ((with_reducible refine' we_dget ?hv ?_); (case hv => rfl))
  | (with_reducible refine we_count ?_)
  | (with_reducible refine we_cb ?_)
  | (with_reducible refine we_call0 ?_)
  | (with_reducible refine we_tup ?_)
  | (with_reducible refine we_lst ?_)
  | (with_reducible refine we_if ?_)
  | (with_reducible refine we_not ?_)
  | (with_reducible refine we_and ?_)
  | (with_reducible refine we_or ?_)
  | (with_reducible refine we_isN ?_)
  | (with_reducible refine we_notN ?_)
  | (with_reducible refine we_sl ?_)
  | (with_reducible refine wa_cons ?_)
  | (with_reducible refine wa_nil ?_)
  | (with_reducible refine wt_test ?_)
  | (with_reducible refine wt_B ?_)
  | (with_reducible refine wt_and ?_)
  | (with_reducible refine wt_or ?_)
  | (with_reducible refine wt_not ?_)
  | (with_reducible refine wt_yes ?_)
  | (with_reducible refine wo_none ?_)
  | (with_reducible refine wo_some ?_)
  | ((with_reducible refine' r2_ix ?hx ?_); (case hx => rfl))
  | (with_reducible refine r2_isN ?_)
  | (with_reducible refine r2_notN ?_)
  | (with_reducible refine r2_lt ?_)
  | (with_reducible refine r2_le ?_)
  | (with_reducible refine r2_gt ?_)
  | (with_reducible refine r2_ge ?_)
  | (with_reducible refine r2_sub ?_)
  | (with_reducible refine r2_addI ?_)
  | (with_reducible refine r2_eqI ?_)
  | (with_reducible refine r2_neI ?_)
  | (with_reducible refine rc_int ?_)
  | (with_reducible refine rc_abs ?_)
  | ((with_reducible refine' rc_len ?hl ?_); (case hl => rfl))
  | (with_reducible refine wi_seq ?_)
  | (with_reducible refine wi_rng1 ?_)
  | (with_reducible refine wi_rng2 ?_)
  | (with_reducible refine wi_enum ?_)
  | (refine ⟨_, rfl, ?_⟩))
local macro_rules | `(tactic| walk_at "ws1") => `(tactic| first
  | (with_reducible refine ws_seq ?_)
  | (with_reducible refine ws_set ?_)
  | (with_reducible refine ws_ret ?_)
  | (with_reducible refine ws_if ?_)
  | (with_reducible refine ws_next ?_)
  | (with_reducible refine ws_asg ?_))
local macro_rules | `(tactic| walk_at "wg1") => `(tactic| first
  | (with_reducible refine wg_name (rw_name (by decide)) ?_)
  | (with_reducible refine wg_name (fun _ _ => trivial) ?_)
  | ((with_reducible refine' wg_tup ?hl ?_); (case hl => rfl))
  | (with_reducible refine wgs_cons rw_trans ?_)
  | (with_reducible refine wgs_nil rw_refl ?_)
  | (with_reducible refine wgs_cons (fun _ _ _ _ _ => trivial) ?_)
  | (with_reducible refine wgs_nil (fun _ => trivial) ?_))
local macro_rules | `(tactic| walk_at "go") => `(tactic| repeat' (first | walk_at "we1" | walk_at "wg1"))
section
variable {P : Program} {w : World} {K : PySem.W.Frag} {mg : Str → Option Value} {base : Heap}
/-! ### the law -/
def natD (i : Nat) : D := .int (i : Int)
def knD : D → Bool
  | .tup [_, _, .str y, _, _] => decide (y ≠ "nobody")
  | _ => false
def otherD (x : Str) : D → Bool
  | .tup [_, _, .str y, _, _] => decide (y ≠ x)
  | _ => false
def qD : D → D
  | .tup [a, b, _, d] => .tup [a, b, .str "query", d]
  | _ => .non
theorem fit_optN (a : Option Nat) : fit (optN a) = true := by cases a <;> rfl
theorem fit_optI (a : Option Int) : fit (optI a) = true := by cases a <;> rfl
def spLaw (K : PySem.W.Frag) : Sp := fun vs H Q _ => ∃ (a : Addr) (ns : List Int), vs = [.ref a] ∧ SqL K H a (ns.map V.int) ∧ ns.length ≤ 63 ∧ ∀ H', Q (.bl true) H'
abbrev s_law : Stmt := top 38
abbrev N_law : List Str := ["script", "bag", "events", "world", "order", "made", "asks", "ask", "known", "place", "places", "many", "told", "due", "event", "calm", "name", "end", "kind", "needs", "queries", "e"]
theorem sc_law : FnScope N_law ["script"] (defScope s_law) := ⟨rfl, rfl, rfl, by decide +kernel, rfl, by decide +kernel, by decide +kernel⟩

theorem ok_law {f : Addr} {fd : FuncData} (F : Fun K "law" "law" s_law f fd) (T : Txt mg) {CO CE : Addr} (M_World : Mn P w K mg base "World" 3 ["self", "told", "base", "factor"] [] [] spWorld) (X_BadOrder : Xn P w K mg base "BadOrder" ["what", "name"]) (D_law_bag : Dr P w K mg base "_law_bag" 1 ["script"] (spBag K))
    (D_law_drawn_events : Dn P w K mg base "_law_drawn_events" 2 ["bag", "ends", "most"] [] [] spDrawn) (D_law_made_world : Dn P w K mg base "_law_made_world" 3 ["bag", "events"] [] [] (spMade P w))
    (D_law_made : Dn P w K mg base "_law_made" 5 ["events"] [] [] (spOrderOf CO CE)) (D_law_told : Dn P w K mg base "_law_told" 1 ["world"] [] [] (spToldL P w)) (D_law_log : Dn P w K mg base "_law_log" 3 ["bag", "events", "world"] [] [] (spLog P w))
    (D_false_ask : Dn P w K mg base "false_ask" 4 ["order", "world", "asks"] [] [] (spFalse CO CE M_World.C)) (D_true_beat : Dn P w K mg base "true_beat" 4 ["order", "world", "asks", "name"] [] [] (spBeat CO CE M_World.C))
    (D_law_first_true : Dn P w K mg base "_law_first_true" 3 ["events", "world", "asks", "name"] [] [] (spLFT P w)) (D_law_first_false : Dn P w K mg base "_law_first_false" 3 ["events", "world", "asks"] [] [] (spLFF P w))
    (R_true_beat : Dx P w K mg base "true_beat" 5 ["order", "world", "asks", "name"] (spBeatX CO CE M_World.C X_BadOrder.C)) : FnOk P w K mg base CX0 7 f fd ["script"] (spLaw K) := by
  refine F.ok sc_law (fun vs H Q E h => ?_) (fun cdv A outer s H vs Q E hr h => ?_)
  · obtain ⟨a, ns, rfl, _⟩ := h
    rfl
  · obtain ⟨a, ns, rfl, hS, hlen, k⟩ := h
    refine ⟨_, (pss_cons (ps_set (i := 1) sc_law.nd rfl (Or.inl rfl) (pe_call D_law_bag.G (hr.mono (by decide)) (by rfl) D_law_bag.m D_law_bag.k D_law_bag.b D_law_bag.v pass0 (pa_cons (pv 0) pa_nil)))
  (pss_cons (ps_set (i := 2) sc_law.nd rfl (Or.inl rfl) (pe_call D_law_drawn_events.G (hr.mono (by decide)) (by rfl) D_law_drawn_events.m D_law_drawn_events.k D_law_drawn_events.b D_law_drawn_events.v pass0 (pa_cons (pv 1) (pa_cons pe_int (pa_cons pe_int pa_nil)))))
  (pss_cons (ps_set (i := 2) sc_law.nd rfl (Or.inl rfl) (pe_ifExp (pt_cmpR op_gt (pe_callB (x_len K) (by rfl) T.b_len (by decide +kernel) (pa_cons (pv 2) pa_nil)) pe_int (nomark _)) (pv 2) (pe_lst (pa_cons (pe_tup (pa_cons pe_str (pa_cons pe_int (pa_cons pe_str (pa_cons (pe_tup pa_nil) pa_nil))))) pa_nil))))
  (pss_cons (ps_set (i := 3) sc_law.nd rfl (Or.inl rfl) (pe_call D_law_made_world.G (hr.mono (by decide)) (by rfl) D_law_made_world.m D_law_made_world.k D_law_made_world.b D_law_made_world.v pass0 (pa_cons (pv 1) (pa_cons (pv 2) pa_nil))))
  (pss_cons (ps_set (i := 4) sc_law.nd rfl (Or.inl rfl) (pe_call D_law_made.G (hr.mono (by decide)) (by rfl) D_law_made.m D_law_made.k D_law_made.b D_law_made.v pass0 (pa_cons (pv 2) pa_nil)))
  (pss_cons (ps_set (i := 5) sc_law.nd rfl (Or.inl rfl) (pe_make M_World.M M_World.G (hr.mono (by decide)) (by rfl) M_World.m M_World.b M_World.v pass0 (pa_cons (pe_call D_law_told.G (hr.mono (by decide)) (by rfl) D_law_told.m D_law_told.k D_law_told.b D_law_told.v pass0 (pa_cons (pv 3) pa_nil)) (pa_cons (pe_ix (x_ix K) (pv 3) pe_int (fun _ _ => rfl)) (pa_cons (pe_ix (x_ix K) (pv 3) pe_int (fun _ _ => rfl)) pa_nil)))))
  (pss_cons (ps_set (i := 6) sc_law.nd rfl (Or.inr rfl) (pe_call D_law_log.G (hr.mono (by decide)) (by rfl) D_law_log.m D_law_log.k D_law_log.b D_law_log.v pass0 (pa_cons (pv 1) (pa_cons (pv 2) (pa_cons (pv 3) pa_nil)))))
  (pss_cons (ps_setLc (i := 8) (own := [("ask", 7)]) (g := gName 7) rfl sc_law.nd rfl rfl (sw_true rfl rfl rfl (by decide +kernel)) (x_seq K (pv 6)) (blkOk_by (own := [("ask", 7)]) (N := N_law) (sc := defScope s_law) (by decide +kernel)) (fun _ _ _ _ _ => (pg_name (i := 7) sc_law.nd rfl (Or.inl rfl))) (fun _ _ _ _ _ => (pts_one (pt_cmpR (x_ne K (by exact hr.units)) (pe_ix (x_ix K) (pv 7) pe_int (fun _ _ => rfl)) pe_str (nomark _)))) (fun _ _ _ _ _ => (pv 7)))
  (pss_cons (ps_setLc (i := 10) (own := [("place", 9)]) (g := gName 9) rfl sc_law.nd rfl rfl (sw_true rfl rfl rfl (by decide +kernel)) (pi_range1 (by rfl) T.b_range (pa_cons (pe_callB (x_len K) (by rfl) T.b_len (by decide +kernel) (pa_cons (pv 6) pa_nil)) pa_nil)) (blkOk_by (own := [("place", 9)]) (N := N_law) (sc := defScope s_law) (by decide +kernel)) (fun _ _ _ _ _ => (pg_name (i := 9) sc_law.nd rfl (Or.inl rfl))) (fun _ _ _ _ _ => (pts_one (pt_cmpR (x_ne K (by exact hr.units)) (pe_ix (x_ix K) (pe_ix (x_ix K) (pv 6) (pv 9) (fun _ _ => rfl)) pe_int (fun _ _ => rfl)) pe_str (nomark _)))) (fun _ _ _ _ _ => (pv 9)))
  (pss_cons (ps_for PassesOwn.never rfl (pi_range1 (by rfl) T.b_range (pa_cons (pe_op (x_add K) (pe_callB (x_len K) (by rfl) T.b_len (by decide +kernel) (pa_cons (pv 6) pa_nil)) pe_int) pa_nil)) (pg_name (i := 11) sc_law.nd rfl (Or.inl rfl)) (pss_cons (ps_set (i := 12) sc_law.nd rfl (Or.inl rfl) (pe_call D_false_ask.G (hr.mono (by decide)) (by rfl) D_false_ask.m D_false_ask.k D_false_ask.b D_false_ask.v pass0 (pa_cons (pv 4) (pa_cons (pv 5) (pa_cons (pe_slice (x_sl K) (pv 6) po_none (po_some (pv 11))) pa_nil)))))
  (pss_cons (ps_set (i := 13) sc_law.nd rfl (Or.inl rfl) (pe_call D_law_first_false.G (hr.mono (by decide)) (by rfl) D_law_first_false.m D_law_first_false.k D_law_first_false.b D_law_first_false.v pass0 (pa_cons (pv 2) (pa_cons (pv 3) (pa_cons (pe_lc (own := [("ask", 7)]) (g := gName 7) rfl sc_law.nd (x_seq K (pe_slice (x_sl K) (pv 6) po_none (po_some (pv 11)))) (blkOk_by (own := [("ask", 7)]) (N := N_law) (sc := defScope s_law) (by decide +kernel)) (fun _ _ _ _ _ => (pg_name (i := 7) sc_law.nd rfl (Or.inl rfl))) (fun _ _ _ _ _ => (pts_one (pt_cmpR (x_ne K (by exact hr.units)) (pe_ix (x_ix K) (pv 7) pe_int (fun _ _ => rfl)) pe_str (nomark _)))) (fun _ _ _ _ _ => (pv 7))) pa_nil)))))
  (pss_one (ps_if (pt_cmpR (x_ne K (by exact hr.units)) (pv 12) (pe_ifExp (pt_cmpR op_isN1 (pv 13) pe_non (nomark _)) pe_non (pe_ix (x_ix K) (pv 10) (pv 13) (fun _ _ => rfl))) (nomark _)) (pss_one (ps_ret pe_bl)) pss_nil)))))
  (pss_cons (ps_for PassesOwn.never rfl (x_seq K (pv 2)) (pg_name (i := 14) sc_law.nd rfl (Or.inr rfl)) (pss_cons (ps_set (i := 13) sc_law.nd rfl (Or.inl rfl) (pe_call D_law_first_true.G (hr.mono (by decide)) (by rfl) D_law_first_true.m D_law_first_true.k D_law_first_true.b D_law_first_true.v pass0 (pa_cons (pv 2) (pa_cons (pv 3) (pa_cons (pv 8) (pa_cons (pe_ix (x_ix K) (pv 14) pe_int (fun _ _ => rfl)) pa_nil))))))
  (pss_cons (ps_if (pt_cmpR (x_ne K (by exact hr.units)) (pe_call D_true_beat.G (hr.mono (by decide)) (by rfl) D_true_beat.m D_true_beat.k D_true_beat.b D_true_beat.v pass0 (pa_cons (pv 4) (pa_cons (pv 5) (pa_cons (pv 6) (pa_cons (pe_ix (x_ix K) (pv 14) pe_int (fun _ _ => rfl)) pa_nil))))) (pv 13) (nomark _)) (pss_one (ps_ret pe_bl)) pss_nil)
  (pss_cons (ps_setLc (i := 15) (own := [("ask", 7)]) (g := gName 7) rfl sc_law.nd rfl rfl (sw_true rfl rfl rfl (by decide +kernel)) (x_seq K (pv 6)) (blkOk_by (own := [("ask", 7)]) (N := N_law) (sc := defScope s_law) (by decide +kernel)) (fun _ _ _ _ _ => (pg_name (i := 7) sc_law.nd rfl (Or.inl rfl))) (fun _ _ _ _ _ => (pts_one (pt_cmpR (x_ne K (by exact hr.units)) (pe_ix (x_ix K) (pv 7) pe_int (fun _ _ => rfl)) (pe_ix (x_ix K) (pv 14) pe_int (fun _ _ => rfl)) (nomark _)))) (fun _ _ _ _ _ => (pv 7)))
  (pss_one (ps_if (pt_cmpR op_notN1 (pe_call D_true_beat.G (hr.mono (by decide)) (by rfl) D_true_beat.m D_true_beat.k D_true_beat.b D_true_beat.v pass0 (pa_cons (pv 4) (pa_cons (pv 5) (pa_cons (pv 15) (pa_cons (pe_ix (x_ix K) (pv 14) pe_int (fun _ _ => rfl)) pa_nil))))) pe_non (nomark _)) (pss_one (ps_ret pe_bl)) pss_nil))))))
  (pss_cons (ps_set (i := 20) sc_law.nd rfl (Or.inl rfl) (pe_call D_law_made.G (hr.mono (by decide)) (by rfl) D_law_made.m D_law_made.k D_law_made.b D_law_made.v pass0 (pa_cons (pe_lc (own := [("name", 16), ("end", 17), ("kind", 18), ("needs", 19)]) (g := gTup K 4 (gCons (gName 16) (gCons (gName 17) (gCons (gName 18) (gCons (gName 19) gNil))))) (tt := tYes) rfl sc_law.nd (x_seq K (pv 2)) (blkOk_by (own := [("name", 16), ("end", 17), ("kind", 18), ("needs", 19)]) (N := N_law) (sc := defScope s_law) (by decide +kernel)) (fun _ _ _ _ _ => (x_tgt K (pg_tup (by rfl) (pgs_cons (pg_name (i := 16) sc_law.nd rfl (Or.inl rfl)) (pgs_cons (pg_name (i := 17) sc_law.nd rfl (Or.inl rfl)) (pgs_cons (pg_name (i := 18) sc_law.nd rfl (Or.inl rfl)) (pgs_cons (pg_name (i := 19) sc_law.nd rfl (Or.inl rfl)) pgs_nil))))))) (fun _ _ _ _ _ => pts_nil) (fun _ _ _ _ _ => (pe_tup (pa_cons (pv 16) (pa_cons (pv 17) (pa_cons pe_str (pa_cons (pv 19) pa_nil))))))) pa_nil)))
  (pss_cons (ps_if (pt_cmpR op_notN1 (pe_call D_false_ask.G (hr.mono (by decide)) (by rfl) D_false_ask.m D_false_ask.k D_false_ask.b D_false_ask.v pass0 (pa_cons (pv 20) (pa_cons (pv 5) (pa_cons (pv 6) pa_nil)))) pe_non (nomark _)) (pss_one (ps_ret pe_bl)) pss_nil)
  (pss_cons (ps_try (i := 21) rfl rfl sc_law.nd rfl rfl ⟨rfl, by decide, Or.inl X_BadOrder.m⟩ takes0
 (fun W pn xe tk po => (pss_one (ps_expr (pe_callSD R_true_beat.G (hr.mono (by decide)) (by rfl) R_true_beat.m R_true_beat.k R_true_beat.b .nil (fun σ => passAt tk σ) (pa_cons (pv 4) (pa_cons (pv 5) (pa_cons (pv 6) (pa_cons pe_str pa_nil))))))))
 (fun a oe cls d pn hz hf => (pss_one (ps_ret (pe_and (pe_cmpR (x_eq K (by exact hr.units)) (pe_xf X_BadOrder.xf (X_BadOrder.no _ (by decide)) hz hf (pv 21)) pe_str (nomark _)) (pe_one (pe_cmpR (x_eq K (by exact hr.units)) (pe_xf X_BadOrder.xf (X_BadOrder.no _ (by decide)) hz hf (pv 21)) pe_str (nomark _))))))))
  (pss_one (ps_ret pe_bl)))))))))))))))), ?_⟩
    refine st_seq ?_
    refine ⟨_, rfl, a, ns, rfl, hS, hlen, fun b q bs H1 nqb g1 g2 g3 g4 g5 => ?_⟩
    refine gN_go ?_
    dsimp only
    refine' (?W : WS ⟨P, w, K, [q, b], some (b, q), H1⟩ _ [.un, .val (.adr b), .un, .un, .un, .un, .un, .un, .un, .un, .un, .un, .un, .un, .un, .un, .un, .un, .un, .un, .un, .un] 0 { nx := fun _ _ => False, rt := fun _ d => d = .bl true }) (fun _ => none) [] _ H1 _ ?E1 ?A1
    case E1 =>
      exact { nd := List.nodup_nil, fresh := (fun l hl => nomatch hl), slots := ⟨[], .un (.val (.adr b) (slots_un 20)), List.Sublist.refl _⟩, lst := (fun l hl => nomatch hl), bag := (fun b' q' e => by cases e; exact ⟨0, 0, bs, g1, g2, g3, g4, g5, Int.le_refl _, Int.le_refl _, Int.le_refl _⟩), base := Same.refl _,
              pers := (fun _ _ e => nomatch e), bO := (fun b' q' e => by cases e; exact ⟨List.mem_cons_of_mem _ List.mem_cons_self, List.mem_cons_self, nqb⟩),
              al := fun o ho => by
                rcases List.mem_cons.mp ho with e | e
                · rw [e, g2]; exact fun z => nomatch z
                · rw [List.mem_singleton.mp e, g1]; exact fun z => nomatch z }
    case A1 =>
      exact { nx := fun _ _ _ _ _ _ h => h.elim, rt := fun v d n H' _ _ r e => by subst e; cases r; exact k H', bk := fun _ _ _ _ _ _ h => h.elim, ct := fun _ _ _ _ _ _ h => h.elim }
    case W =>
      clear g1 g2 g3 g4 g5 hS hlen k
      refine ws_cut (fun n1 ρ1 => n1 ≤ 100 ∧ ∃ es : List Toy.Ev, goodEvs es ∧ es.length ≤ 8 ∧ (∀ e ∈ es, e.nm ∈ PL) ∧ ρ1 = [.un, .val (.adr b), .val (.lst (es.map evT)), .un, .un, .un, .un, .un, .un, .un, .un, .un, .un, .un, .un, .un, .un, .un, .un, .un, .un, .un]) ?_ ?_
      · walk_at "ws1"
        walk_at "go"
        refine ⟨b, q, 3, 8, rfl, rfl, by decide, by decide, by decide, by decide, fun es n' h1 h2 h3 h4 => ?_⟩
        exact ⟨by omega, es, h1, h2, h3, rfl⟩
      rintro n1 ρ1 ⟨hn1, es0, hg0, h80, hP0, rfl⟩
      refine ws_cut (fun n2 ρ1 => n2 ≤ 100 ∧ ∃ es : List Toy.Ev, goodEvs es ∧ es.length ≤ 8 ∧ 0 < es.length ∧ (∀ e ∈ es, e.nm ∈ PL) ∧ ρ1 = [.un, .val (.adr b), .val (.lst (es.map evT)), .un, .un, .un, .un, .un, .un, .un, .un, .un, .un, .un, .un, .un, .un, .un, .un, .un, .un, .un]) ?_ ?_
      · refine ws_set (we_if ?_)
        walk_at "go"
        rw [List.length_map]
        refine dec2 (fun h1 => ?_) (fun h1 => ?_)
        · walk_at "go"
          exact ⟨hn1, es0, hg0, h80, by omega, hP0, rfl⟩
        · walk_at "go"
          refine ⟨Nat.zero_le _, ?_⟩
          walk_at "go"
          refine ⟨Nat.le_of_ble_eq_true rfl, ?_⟩
          walk_at "go"
          refine ⟨Nat.le_of_ble_eq_true rfl, ?_⟩
          refine ⟨hn1, [⟨"m", 2, "action", []⟩], ?_, by decide, by decide, (fun e he => by rw [List.mem_singleton.mp he]; decide +kernel), rfl⟩
          refine ⟨by decide, fun i e hi => ?_⟩
          cases i with
          | zero =>
            cases hi
            exact ⟨by decide +kernel, by simp, by decide, by decide, .inr rfl, by decide, (fun x hx => nomatch hx), List.nodup_nil, by decide +kernel, by decide +kernel, fun x hx => nomatch hx⟩
          | succ i => simp at hi
      clear hg0 h80 hP0 es0
      rintro n2 ρ1 ⟨hn2, es, hg, h8, hpos, hPL, rfl⟩
      refine ws_cut (fun n3 ρ1 => n3 ≤ 130 ∧ ∃ W : Wd, okW W ∧ okT es W.told ∧ ρ1 = [.un, .val (.adr b), .val (.lst (es.map evT)), .val (wD P w W), .un, .un, .un, .un, .un, .un, .un, .un, .un, .un, .un, .un, .un, .un, .un, .un, .un, .un]) ?_ ?_
      · walk_at "ws1"
        walk_at "go"
        refine ⟨b, q, es, rfl, rfl, hg, by omega, fun W n' h1 h2 h3 => ?_⟩
        exact ⟨by omega, W, h1, h2, rfl⟩
      rintro n3 ρ1 ⟨hn3, W, hW, hT, rfl⟩
      obtain ⟨V, hV, hVb0⟩ := exists_V hW es hg
      have hVb : ∀ x, (V x).natAbs ≤ 2 ^ 140 := fun x => Nat.le_trans (hVb0 x) (bnd_mono (m := 8) h8)
      have hR : RunOk (madeP W) es V := ⟨hg, okP_made hg hW hT, fun e he => by rw [made_ans hg hW hT]; exact hV e he, fun x => Nat.le_trans (hVb x) (Nat.pow_le_pow_right (by decide) (by decide))⟩
      have hTr : TrueOk es W V := ⟨hg, hW, hV, fun x => Nat.le_trans (hVb x) (Nat.pow_le_pow_right (by decide) (by decide))⟩
      have hno : ("nobody" : Str) ∉ es.map Toy.Ev.nm := fun z => by
        obtain ⟨e, he, hq⟩ := List.mem_map.mp z
        exact PL_no (hq ▸ hPL e he)
      refine ws_cut (fun n4 ρ1 => n4 = n3 ∧ ρ1 = [.un, .val (.adr b), .val (.lst (es.map evT)), .val (wD P w W), .val (ordD CO CE es), .un, .un, .un, .un, .un, .un, .un, .un, .un, .un, .un, .un, .un, .un, .un, .un, .un]) ?_ ?_
      · walk_at "ws1"
        walk_at "go"
        exact ⟨hg, rfl, rfl⟩
      rintro n4 ρ1 ⟨rfl, rfl⟩
      refine ws_cut (fun n5 ρ1 => n5 = n4 ∧ ρ1 = [.un, .val (.adr b), .val (.lst (es.map evT)), .val (wD P w W), .val (ordD CO CE es), .val (wpD M_World.C (madeP W)), .un, .un, .un, .un, .un, .un, .un, .un, .un, .un, .un, .un, .un, .un, .un, .un]) ?_ ?_
      · walk_at "ws1"
        refine we_make (dds := []) (fun _ => .nil) ?_
        walk_at "go"
        refine ⟨by have := hW.n; omega, hT.nd, ?_⟩
        walk_at "go"
        exact ⟨W.told.map toE, W.b, W.f, by rw [told_ents]; rfl, okEs_told hg hW hT, rfl, rfl⟩
      rintro n5 ρ1 ⟨rfl, rfl⟩
      refine ws_cut (fun n6 ρ1 => n6 ≤ n5 + 400 ∧ ∃ asks : List Ask, asks.length ≤ 14 ∧ okN es asks ∧ ρ1 = [.un, .val (.adr b), .val (.lst (es.map evT)), .val (wD P w W), .val (ordD CO CE es), .val (wpD M_World.C (madeP W)), .val (.lst (asks.map askD)), .un, .un, .un, .un, .un, .un, .un, .un, .un, .un, .un, .un, .un, .un, .un]) ?_ ?_
      · walk_at "ws1"
        walk_at "go"
        refine ⟨b, q, es, W, V, rfl, rfl, hTr, hpos, by omega, fun asks n' h1 h2 h3 => ?_⟩
        exact ⟨h3, asks, h1, h2, rfl⟩
      rintro n6 ρ1 ⟨hn6, asks, hal, han, rfl⟩
      have fA : ∀ a ∈ asks, fit (.str a.nm) = true := fun a ha => by
        rcases han a ha with z | z
        · rw [z]; decide +kernel
        · obtain ⟨e, he, q⟩ := List.mem_map.mp z
          rw [← q]; exact (fit_nm hg he).1
      have hkn : ∀ l : List Ask, (∀ a ∈ l, a ∈ asks) → ∀ a ∈ l.filter kn, a.nm ∈ es.map Toy.Ev.nm := fun l hl a ha => by
        have h1 := List.mem_filter.mp ha
        exact (han a (hl a h1.1)).resolve_left (of_decide_eq_true h1.2)
      -- known
      refine ws_cut (fun n7 ρ1 => n7 = n6 ∧ ρ1 = [.un, .val (.adr b), .val (.lst (es.map evT)), .val (wD P w W), .val (ordD CO CE es), .val (wpD M_World.C (madeP W)), .val (.lst (asks.map askD)), .un, .val (.lst ((asks.filter kn).map askD)), .un, .un, .un, .un, .un, .un, .un, .un, .un, .un, .un, .un, .un]) ?_ ?_
      · refine ws_set (wf_we (wf_map id knD (wi_seq ?_)))
        walk_at "we1"
        refine ⟨_, rfl, by rw [List.length_map]; omega, fun d hd m => ?_, ?_⟩
        · obtain ⟨a, ha, rfl⟩ := List.mem_map.mp hd
          walk_at "go"
          refine r2_neD (fA a ha) (by decide +kernel) ?_
          rw [eq_str]
          refine ⟨_, rfl, rfl, ?_, fun _ => ?_⟩
          · show (!decide (a.nm = "nobody")) = decide (a.nm ≠ "nobody")
            rw [← decide_not]
          · walk_at "go"
            exact ⟨rfl, rfl⟩
        rw [filt_to (p := kn) (k := askD) (fun a => rfl) (fun a => rfl)]
        exact ⟨rfl, rfl⟩
      rintro n7 ρ1 ⟨rfl, rfl⟩
      -- places
      refine ws_cut (fun n8 ρ1 => n8 = n7 ∧ ∃ (x7 x9 x11 x12 x13 x14 x15 x16 x17 x18 x19 x20 x21 : SD), ρ1 = [.un, .val (.adr b), .val (.lst (es.map evT)), .val (wD P w W), .val (ordD CO CE es), .val (wpD M_World.C (madeP W)), .val (.lst (asks.map askD)), x7, .val (.lst ((asks.filter kn).map askD)), x9, .val (.lst ((placesL 0 asks).map natD)), x11, x12, x13, x14, x15, x16, x17, x18, x19, x20, x21]) ?_ ?_
      · refine ws_set (wf_we (wf_lc ?_))
        walk_at "go"
        rw [List.length_map]
        refine ⟨by omega, by omega, ?_⟩
        have hcn : ((asks.length : Nat) : Int).toNat = asks.length := by omega
        rw [hcn]
        refine ⟨fun k m1 acc => m1 = n7 ∧ acc = (placesL 0 (asks.take k)).map natD, ⟨rfl, rfl⟩, fun k m1 acc d hd ⟨e1, e2⟩ => ?_, fun m1 acc ⟨e1, e2⟩ => ?_⟩
        · subst e1; subst e2
          obtain ⟨hk, rfl⟩ := rangeD_get hd
          have hx : asks[k]? = some asks[k] := List.getElem?_eq_getElem hk
          have e0 : (0 : Int) + (k : Int) = (k : Int) := by omega
          have hsn : placesL 0 (asks.take (k + 1)) = placesL 0 (asks.take k) ++ if kn asks[k] = true then [k] else [] := by
            rw [List.take_succ_eq_append_getElem hk, places_snoc, List.length_take, Nat.min_eq_left (Nat.le_of_lt hk), Nat.zero_add]
          rw [e0]
          walk_at "go"
          refine r2_ix (f := askD asks[k]) (ixD_nat (by rw [List.getElem?_map, hx]; rfl)) ?_
          walk_at "go"
          refine r2_neD (fA _ (List.getElem_mem hk)) (by decide +kernel) ?_
          rw [eq_str]
          refine ⟨_, rfl, decN (fun h1 => ?_) (fun h1 => ?_)⟩
          · walk_at "go"
            have hc : kn asks[k] = true := decide_eq_true h1
            refine ⟨by rw [List.length_map, sizeLine_eq]; have := places_len 0 (asks.take k); rw [List.length_take] at this; omega, rfl, ?_⟩
            rw [hsn, if_pos hc, List.map_append]; rfl
          · have hc : ¬ kn asks[k] = true := fun z => of_decide_eq_true z h1
            refine ⟨rfl, ?_⟩
            rw [hsn, if_neg hc, List.append_nil]
        · subst e1; subst e2
          rw [rangeD_len, List.take_length]
          exact ⟨rfl, _, _, _, _, _, _, _, _, _, _, _, _, _, rfl⟩
      rintro n8 ρ1 ⟨rfl, x7, x9, x11, x12, x13, x14, x15, x16, x17, x18, x19, x20, x21, rfl⟩
      -- every beginning of the log
      refine ws_cut2 (Nx := fun n9 ρ1 => n9 = n8 ∧ ∃ (x7 x9 x11 x12 x13 x14 x15 x16 x17 x18 x19 x20 x21 : SD), ρ1 = [.un, .val (.adr b), .val (.lst (es.map evT)), .val (wD P w W), .val (ordD CO CE es), .val (wpD M_World.C (madeP W)), .val (.lst (asks.map askD)), x7, .val (.lst ((asks.filter kn).map askD)), x9, .val (.lst ((placesL 0 asks).map natD)), x11, x12, x13, x14, x15, x16, x17, x18, x19, x20, x21]) ?_ ?_
      · refine ws_for ?_
        walk_at "go"
        rw [List.length_map]
        refine ⟨by omega, by omega, ?_⟩
        have hcn : ((asks.length : Nat) : Int) + 1 = ((asks.length + 1 : Nat) : Int) := by omega
        rw [hcn]
        have hcn2 : ((asks.length + 1 : Nat) : Int).toNat = asks.length + 1 := by omega
        rw [hcn2]
        refine ⟨fun i m ρ => m = n8 ∧ ∃ (x7 x9 x11 x12 x13 x14 x15 x16 x17 x18 x19 x20 x21 : SD), ρ = [.un, .val (.adr b), .val (.lst (es.map evT)), .val (wD P w W), .val (ordD CO CE es), .val (wpD M_World.C (madeP W)), .val (.lst (asks.map askD)), x7, .val (.lst ((asks.filter kn).map askD)), x9, .val (.lst ((placesL 0 asks).map natD)), x11, x12, x13, x14, x15, x16, x17, x18, x19, x20, x21], ⟨rfl, _, _, _, _, _, _, _, _, _, _, _, _, _, rfl⟩, ?_, ?_⟩
        · rintro i m ρ1 d hd ⟨rfl, x7, x9, x11, x12, x13, x14, x15, x16, x17, x18, x19, x20, x21, rfl⟩
          obtain ⟨hi, rfl⟩ := rangeD_get hd
          have e0 : (0 : Int) + (i : Int) = (i : Int) := by omega
          rw [e0]
          have hcut : cutD (asks.map askD) none (some (i : Int)) = (asks.take i).map askD := by rw [cut_to (by rw [List.length_map]; omega), ← List.map_take]
          have hti : (asks.take i).length ≤ 14 := by rw [List.length_take]; omega
          have hsub : ∀ a ∈ asks.take i, a ∈ asks := fun a ha => List.mem_of_mem_take ha
          walk_at "wg1"
          refine ws_cut (fun n1 ρ1 => n1 = m ∧ ρ1 = [.un, .val (.adr b), .val (.lst (es.map evT)), .val (wD P w W), .val (ordD CO CE es), .val (wpD M_World.C (madeP W)), .val (.lst (asks.map askD)), x7, .val (.lst ((asks.filter kn).map askD)), x9, .val (.lst ((placesL 0 asks).map natD)), .val (.int (i : Int)), .val (optN (falseF es V [] 0 (asks.take i))), x13, x14, x15, x16, x17, x18, x19, x20, x21]) ?_ ?_
          · walk_at "ws1"
            walk_at "go"
            exact ⟨es, madeP W, V, asks.take i, by rw [hcut], hR, by omega, fun a ha => fA a (hsub a ha), rfl, rfl⟩
          rintro n1 ρ1 ⟨rfl, rfl⟩
          refine ws_cut (fun n2 ρ1 => n2 = n1 ∧ ρ1 = [.un, .val (.adr b), .val (.lst (es.map evT)), .val (wD P w W), .val (ordD CO CE es), .val (wpD M_World.C (madeP W)), .val (.lst (asks.map askD)), x7, .val (.lst ((asks.filter kn).map askD)), x9, .val (.lst ((placesL 0 asks).map natD)), .val (.int (i : Int)), .val (optN (falseF es V [] 0 (asks.take i))), .val (optN (falseF es V [] 0 ((asks.take i).filter kn))), x14, x15, x16, x17, x18, x19, x20, x21]) ?_ ?_
          · refine ws_set (we_call0 (wa_cons ?_))
            walk_at "we1"
            refine wa_cons ?_
            walk_at "we1"
            refine wa_cons (wf_we (wf_map id knD (wi_seq ?_)))
            walk_at "go"
            rw [hcut]
            refine ⟨by rw [List.length_map]; omega, fun d hd m => ?_, ?_⟩
            · obtain ⟨a, ha, rfl⟩ := List.mem_map.mp hd
              walk_at "go"
              refine r2_neD (fA a (hsub a ha)) (by decide +kernel) ?_
              rw [eq_str]
              refine ⟨_, rfl, rfl, ?_, fun _ => ?_⟩
              · show (!decide (a.nm = "nobody")) = decide (a.nm ≠ "nobody")
                rw [← decide_not]
              · walk_at "go"
                exact ⟨rfl, rfl⟩
            rw [filt_to (p := kn) (k := askD) (fun a => rfl) (fun a => rfl)]
            refine wa_nil ⟨es, W, V, (asks.take i).filter kn, rfl, hTr, ?_, hkn _ hsub, rfl, rfl⟩
            have := List.length_filter_le kn (asks.take i)
            omega
          rintro n2 ρ1 ⟨rfl, rfl⟩
          obtain ⟨f1, f2⟩ := first_known hno V (asks.take i) (asks.drop i) [] 0 0
          rw [List.take_append_drop] at f2
          generalize hF : falseF es V [] 0 ((asks.take i).filter kn) = o at f1 f2
          generalize hG : falseF es V [] 0 (asks.take i) = o2 at f1 f2
          refine ws_if ?_
          refine wt_test (we_op ?_)
          walk_at "we1"
          refine WE.mono (Φ := fun m2 d => m2 = n2 ∧ d = optN o2) ?_ ?_
          · refine we_if ?_
            walk_at "go"
            cases o with
            | none =>
              refine itT rfl ?_
              walk_at "go"
              exact ⟨rfl, by rw [f1 rfl]; rfl⟩
            | some d =>
              obtain ⟨_, p, q1, q2⟩ := f2 d rfl
              rw [Nat.sub_zero] at q1
              refine itF rfl ?_
              walk_at "go"
              refine r2_ix (f := natD p) (ixD_nat (by rw [List.getElem?_map, q1]; rfl)) ?_
              exact ⟨rfl, by rw [q2]; rfl⟩
          rintro _ _ ⟨rfl, rfl⟩
          refine r2_neD (fit_optN _) (fit_optN _) ?_
          rw [L3.eq_self (fit_optN _)]
          refine ⟨_, rfl, itF rfl ?_⟩
          walk_at "ws1"
          exact ⟨rfl, _, _, _, _, _, _, _, _, _, _, _, _, _, rfl⟩
        · rintro m ρ1 ⟨rfl, x7, x9, x11, x12, x13, x14, x15, x16, x17, x18, x19, x20, x21, rfl⟩
          exact ⟨rfl, _, _, _, _, _, _, _, _, _, _, _, _, _, rfl⟩
      clear x7 x9 x11 x12 x13 x14 x15 x16 x17 x18 x19 x20 x21
      rintro n9 ρ1 ⟨rfl, x7, x9, x11, x12, x13, x14, x15, x16, x17, x18, x19, x20, x21, rfl⟩
      -- every event
      refine ws_cut2 (Nx := fun n10 ρ1 => n10 = n9 ∧ ∃ (x7 x9 x11 x12 x13 x14 x15 x16 x17 x18 x19 x20 x21 : SD), ρ1 = [.un, .val (.adr b), .val (.lst (es.map evT)), .val (wD P w W), .val (ordD CO CE es), .val (wpD M_World.C (madeP W)), .val (.lst (asks.map askD)), x7, .val (.lst ((asks.filter kn).map askD)), x9, .val (.lst ((placesL 0 asks).map natD)), x11, x12, x13, x14, x15, x16, x17, x18, x19, x20, x21]) ?_ ?_
      · refine ws_for (wi_seq ?_)
        walk_at "we1"
        refine ⟨_, rfl, fun i m ρ => m = n9 ∧ ∃ (x7 x9 x11 x12 x13 x14 x15 x16 x17 x18 x19 x20 x21 : SD), ρ = [.un, .val (.adr b), .val (.lst (es.map evT)), .val (wD P w W), .val (ordD CO CE es), .val (wpD M_World.C (madeP W)), .val (.lst (asks.map askD)), x7, .val (.lst ((asks.filter kn).map askD)), x9, .val (.lst ((placesL 0 asks).map natD)), x11, x12, x13, x14, x15, x16, x17, x18, x19, x20, x21], ⟨rfl, _, _, _, _, _, _, _, _, _, _, _, _, _, rfl⟩, ?_, ?_⟩
        · rintro i m ρ1 d hd ⟨rfl, x7, x9, x11, x12, x13, x14, x15, x16, x17, x18, x19, x20, x21, rfl⟩
          obtain ⟨e, hee, rfl, hem, tk⟩ := map_at hd
          have fe := fit_nm hg hem
          have hne : e.nm ≠ "nobody" := fun z => hno (z ▸ List.mem_map.mpr ⟨e, hem, rfl⟩)
          have hfl := List.length_filter_le kn asks
          walk_at "wg1"
          refine ws_cut (fun n1 ρ1 => n1 = m ∧ ρ1 = [.un, .val (.adr b), .val (.lst (es.map evT)), .val (wD P w W), .val (ordD CO CE es), .val (wpD M_World.C (madeP W)), .val (.lst (asks.map askD)), x7, .val (.lst ((asks.filter kn).map askD)), x9, .val (.lst ((placesL 0 asks).map natD)), x11, x12, .val (optI (beatF asks e.nm (e.needs.map V))), .val (evT e), x15, x16, x17, x18, x19, x20, x21]) ?_ ?_
          · walk_at "ws1"
            walk_at "go"
            refine ⟨es, W, V, asks.filter kn, e, rfl, hTr, hem, by omega, fun a ha => fA a (List.mem_filter.mp ha).1, ?_⟩
            rw [beat_known hne]
            exact ⟨rfl, rfl⟩
          rintro n1 ρ1 ⟨rfl, rfl⟩
          refine ws_cut2 (Nx := fun n2 ρ1 => n2 = n1 ∧ ρ1 = [.un, .val (.adr b), .val (.lst (es.map evT)), .val (wD P w W), .val (ordD CO CE es), .val (wpD M_World.C (madeP W)), .val (.lst (asks.map askD)), x7, .val (.lst ((asks.filter kn).map askD)), x9, .val (.lst ((placesL 0 asks).map natD)), x11, x12, .val (optI (beatF asks e.nm (e.needs.map V))), .val (evT e), x15, x16, x17, x18, x19, x20, x21]) ?_ ?_
          · refine ws_if ?_
            walk_at "go"
            refine ⟨es, madeP W, V, asks, e, rfl, hR, hem, by omega, fA, ?_⟩
            walk_at "go"
            refine r2_neD (fit_optI _) (fit_optI _) ?_
            rw [L3.eq_self (fit_optI _)]
            refine ⟨_, rfl, itF rfl ?_⟩
            walk_at "ws1"
            exact ⟨rfl, rfl⟩
          rintro n2 ρ1 ⟨rfl, rfl⟩
          refine ws_cut (fun n3 ρ1 => n3 = n2 ∧ ρ1 = [.un, .val (.adr b), .val (.lst (es.map evT)), .val (wD P w W), .val (ordD CO CE es), .val (wpD M_World.C (madeP W)), .val (.lst (asks.map askD)), x7, .val (.lst ((asks.filter kn).map askD)), x9, .val (.lst ((placesL 0 asks).map natD)), x11, x12, .val (optI (beatF asks e.nm (e.needs.map V))), .val (evT e), .val (.lst ((asks.filter fun a : Ask => decide (a.nm ≠ e.nm)).map askD)), x16, x17, x18, x19, x20, x21]) ?_ ?_
          · refine ws_set (wf_we (wf_map id (otherD e.nm) (wi_seq ?_)))
            walk_at "we1"
            refine ⟨_, rfl, by rw [List.length_map]; omega, fun d hd m => ?_, ?_⟩
            · obtain ⟨a, ha, rfl⟩ := List.mem_map.mp hd
              walk_at "go"
              refine r2_neD (fA a ha) fe.1 ?_
              rw [eq_str]
              refine ⟨_, rfl, rfl, ?_, fun _ => ?_⟩
              · show (!decide (a.nm = e.nm)) = decide (a.nm ≠ e.nm)
                rw [← decide_not]
              · walk_at "go"
                exact ⟨rfl, rfl⟩
            rw [filt_to (p := fun a : Ask => decide (a.nm ≠ e.nm)) (k := askD) (fun a => rfl) (fun a => rfl)]
            exact ⟨rfl, rfl⟩
          rintro n3 ρ1 ⟨rfl, rfl⟩
          have hcl := List.length_filter_le (fun a : Ask => decide (a.nm ≠ e.nm)) asks
          refine ws_if ?_
          walk_at "go"
          refine ⟨es, madeP W, V, asks.filter (fun a : Ask => decide (a.nm ≠ e.nm)), e, rfl, hR, hem, by omega, fun a ha => fA a (List.mem_filter.mp ha).1, ?_⟩
          rw [beat_calm]
          walk_at "go"
          refine itF rfl ?_
          walk_at "ws1"
          exact ⟨rfl, _, _, _, _, _, _, _, _, _, _, _, _, _, rfl⟩
        · rintro m ρ1 ⟨rfl, x7, x9, x11, x12, x13, x14, x15, x16, x17, x18, x19, x20, x21, rfl⟩
          exact ⟨rfl, _, _, _, _, _, _, _, _, _, _, _, _, _, rfl⟩
      clear x7 x9 x11 x12 x13 x14 x15 x16 x17 x18 x19 x20 x21
      rintro n10 ρ1 ⟨rfl, x7, x9, x11, x12, x13, x14, x15, x16, x17, x18, x19, x20, x21, rfl⟩
      -- all made queries
      refine ws_cut (fun n11 ρ1 => n11 = n10 ∧ ∃ (x7 x9 x11 x12 x13 x14 x15 x16 x17 x18 x19 x20 x21 : SD), ρ1 = [.un, .val (.adr b), .val (.lst (es.map evT)), .val (wD P w W), .val (ordD CO CE es), .val (wpD M_World.C (madeP W)), .val (.lst (asks.map askD)), x7, .val (.lst ((asks.filter kn).map askD)), x9, .val (.lst ((placesL 0 asks).map natD)), x11, x12, x13, x14, x15, x16, x17, x18, x19, .val (ordD CO CE (es.map toQ)), x21]) ?_ ?_
      · refine ws_set (we_call0 (wa_cons (wf_we (wf_map qD (fun _ => true) (wi_seq ?_)))))
        walk_at "we1"
        refine ⟨_, rfl, by rw [List.length_map]; omega, fun d hd m => ?_, ?_⟩
        · obtain ⟨e, he, rfl⟩ := List.mem_map.mp hd
          walk_at "go"
          refine ⟨rfl, rfl, fun _ => ?_⟩
          walk_at "go"
          exact ⟨Nat.le_of_ble_eq_true rfl, rfl, rfl⟩
        rw [filt_all, List.map_map]
        have eq : es.map (qD ∘ evT) = (es.map toQ).map evT := by rw [List.map_map]; rfl
        rw [eq]
        exact wa_nil ⟨es.map toQ, rfl, goodEvs_Q hg, rfl, _, _, _, _, _, _, _, _, _, _, _, .un, _, rfl⟩
      clear x7 x9 x11 x12 x13 x14 x15 x16 x17 x18 x19 x20 x21
      rintro n11 ρ1 ⟨rfl, x7, x9, x11, x12, x13, x14, x15, x16, x17, x18, x19, x20, x21, rfl⟩
      refine ws_cut2 (Nx := fun n12 ρ1 => n12 = n11 ∧ ρ1 = [.un, .val (.adr b), .val (.lst (es.map evT)), .val (wD P w W), .val (ordD CO CE es), .val (wpD M_World.C (madeP W)), .val (.lst (asks.map askD)), x7, .val (.lst ((asks.filter kn).map askD)), x9, .val (.lst ((placesL 0 asks).map natD)), x11, x12, x13, x14, x15, x16, x17, x18, x19, .val (ordD CO CE (es.map toQ)), x21]) ?_ ?_
      · refine ws_if ?_
        walk_at "go"
        refine ⟨es.map toQ, madeP W, V, asks, rfl, run_Q hR, by omega, fA, ?_⟩
        rw [false_Q]
        walk_at "go"
        refine itF rfl ?_
        walk_at "ws1"
        exact ⟨rfl, rfl⟩
      rintro n12 ρ1 ⟨rfl, rfl⟩
      -- a name that no event has
      refine ws_seq (ws_try (Ξ := fun n' ρ' C ks => ρ' = ([.un, .val (.adr b), .val (.lst (es.map evT)), .val (wD P w W), .val (ordD CO CE es), .val (wpD M_World.C (madeP W)), .val (.lst (asks.map askD)), x7, .val (.lst ((asks.filter kn).map askD)), x9, .val (.lst ((placesL 0 asks).map natD)), x11, x12, x13, x14, x15, x16, x17, x18, x19, .val (ordD CO CE (es.map toQ)), x21]).map asd ∧ C = X_BadOrder.C ∧ ks = xUnk "nobody") (fun O' H0' WW hW2 => ?_) (fun n' ρ' C ks h => ?_))
      · refine ws_drop (we_callX hW2 (dds := []) (fun _ => .nil) ?_)
        walk_at "go"
        exact ⟨es, madeP W, V, asks, "nobody", rfl, hR, by decide +kernel, hno, rfl, rfl, rfl⟩
      · obtain ⟨rfl, rfl, rfl⟩ := h
        refine ⟨X_BadOrder.te, fun O' H0' dx a hd => ?_⟩
        walk_at "ws1"
        refine we_and (we_op (we_xf hd ?_))
        walk_at "we1"
        refine ⟨rfl, _, rfl, ?_⟩
        walk_at "we1"
        refine r2_eqD (by decide +kernel) (by decide +kernel) ?_
        rw [L3.eq_self (by decide +kernel)]
        refine ⟨_, rfl, itT rfl ?_⟩
        refine we_op (we_xf hd ?_)
        walk_at "we1"
        refine ⟨rfl, _, rfl, ?_⟩
        walk_at "we1"
        refine r2_eqD (by decide +kernel) (by decide +kernel) ?_
        rw [L3.eq_self (by decide +kernel)]
        rfl

end
end Toy
namespace Toy
open PySem L2 L3
theorem all_mk {l : PySem.W.OpenLaw} {w : World} {K : PySem.W.Frag} {h : Heap} {mg : Str → Option Value} {fa : Addr} (X : K.In h) (G : h.Ns mainGlobals mg) (hfa : mg "law" = some (.ref fa))
    {C_Event : Addr}
    {f2 : Addr}
    {C_Order : Addr}
    {f4 : Addr}
    {f10 : Addr}
    {f11 : Addr}
    {C_World : Addr}
    {f8 : Addr}
    {f9 : Addr}
    {C_AskedError : Addr}
    {C_BadOrder f5 : Addr} {nm_BadOrder q_BadOrder : Str} {N_BadOrder : Addr} {bs_BadOrder : List Value} {sn_BadOrder : List Str} {sub_BadOrder : List Value} {ab_BadOrder : Bool} {col_BadOrder : Option Bool} {dd_BadOrder : Option Addr} {m0_BadOrder m1_BadOrder m2_BadOrder m3_BadOrder m5_BadOrder : Option Value}
    {f0 : Addr}
    {od0 an0 : Option Addr} {sl0 : Array (Option Value)} {oc0 kV0 dc0 pm0 cd0 ct0 : Value}
    {f1 : Addr}
    {od1 an1 : Option Addr} {sl1 : Array (Option Value)} {oc1 kV1 dc1 pm1 cd1 ct1 : Value}
    {od2 an2 : Option Addr} {sl2 : Array (Option Value)} {oc2 kV2 dc2 pm2 cd2 ct2 : Value}
    {TT2 : Addr} {odT2 : Option Addr} {slT2 : Array (Option Value)} {ocT2 : Value} {nT2 : Nat} {E0 : Addr}
    {f3 : Addr}
    {od3 an3 : Option Addr} {sl3 : Array (Option Value)} {oc3 kV3 dc3 pm3 cd3 ct3 : Value}
    {od4 an4 : Option Addr} {sl4 : Array (Option Value)} {oc4 kV4 dc4 pm4 cd4 ct4 : Value}
    {od5 an5 : Option Addr} {sl5 : Array (Option Value)} {oc5 kV5 dc5 pm5 cd5 ct5 : Value}
    {f6 : Addr}
    {od6 an6 : Option Addr} {sl6 : Array (Option Value)} {oc6 kV6 dc6 pm6 cd6 ct6 : Value}
    {f7 : Addr}
    {od7 an7 : Option Addr} {sl7 : Array (Option Value)} {oc7 kV7 dc7 pm7 cd7 ct7 : Value}
    {od8 an8 : Option Addr} {sl8 : Array (Option Value)} {oc8 kV8 dc8 pm8 cd8 ct8 : Value}
    {TT8 : Addr} {odT8 : Option Addr} {slT8 : Array (Option Value)} {ocT8 : Value} {nT8 : Nat} {E1 : Addr} {tw1 : Tok} {tw2 : Tok}
    {od9 an9 : Option Addr} {sl9 : Array (Option Value)} {oc9 kV9 dc9 pm9 cd9 ct9 : Value}
    {od10 an10 : Option Addr} {sl10 : Array (Option Value)} {oc10 kV10 dc10 pm10 cd10 ct10 : Value}
    {od11 an11 : Option Addr} {sl11 : Array (Option Value)} {oc11 kV11 dc11 pm11 cd11 ct11 : Value}
    {f12 : Addr}
    {od12 an12 : Option Addr} {sl12 : Array (Option Value)} {oc12 kV12 dc12 pm12 cd12 ct12 : Value}
    {f13 : Addr}
    {od13 an13 : Option Addr} {sl13 : Array (Option Value)} {oc13 kV13 dc13 pm13 cd13 ct13 : Value}
    {f14 : Addr}
    {od14 an14 : Option Addr} {sl14 : Array (Option Value)} {oc14 kV14 dc14 pm14 cd14 ct14 : Value}
    {f15 : Addr}
    {od15 an15 : Option Addr} {sl15 : Array (Option Value)} {oc15 kV15 dc15 pm15 cd15 ct15 : Value}
    {f16 : Addr}
    {od16 an16 : Option Addr} {sl16 : Array (Option Value)} {oc16 kV16 dc16 pm16 cd16 ct16 : Value}
    {f17 : Addr}
    {od17 an17 : Option Addr} {sl17 : Array (Option Value)} {oc17 kV17 dc17 pm17 cd17 ct17 : Value}
    {f18 : Addr}
    {od18 an18 : Option Addr} {sl18 : Array (Option Value)} {oc18 kV18 dc18 pm18 cd18 ct18 : Value}
    {f19 : Addr}
    {od19 an19 : Option Addr} {sl19 : Array (Option Value)} {oc19 kV19 dc19 pm19 cd19 ct19 : Value}
    {f20 : Addr}
    {od20 an20 : Option Addr} {sl20 : Array (Option Value)} {oc20 kV20 dc20 pm20 cd20 ct20 : Value}
    {f21 : Addr}
    {od21 an21 : Option Addr} {sl21 : Array (Option Value)} {oc21 kV21 dc21 pm21 cd21 ct21 : Value}
    {f22 : Addr}
    {od22 an22 : Option Addr} {sl22 : Array (Option Value)} {oc22 kV22 dc22 pm22 cd22 ct22 : Value}
    {f23 : Addr}
    {od23 an23 : Option Addr} {sl23 : Array (Option Value)} {oc23 kV23 dc23 pm23 cd23 ct23 : Value}
    {f24 : Addr}
    {od24 an24 : Option Addr} {sl24 : Array (Option Value)} {oc24 kV24 dc24 pm24 cd24 ct24 : Value}
    {f25 : Addr}
    {od25 an25 : Option Addr} {sl25 : Array (Option Value)} {oc25 kV25 dc25 pm25 cd25 ct25 : Value}
    {f26 : Addr}
    {od26 an26 : Option Addr} {sl26 : Array (Option Value)} {oc26 kV26 dc26 pm26 cd26 ct26 : Value}
    {f27 : Addr}
    {od27 an27 : Option Addr} {sl27 : Array (Option Value)} {oc27 kV27 dc27 pm27 cd27 ct27 : Value}
    {f28 : Addr}
    {od28 an28 : Option Addr} {sl28 : Array (Option Value)} {oc28 kV28 dc28 pm28 cd28 ct28 : Value}
    {tL tS tE tN tM tq ta : Tok}
    {aK : Addr}
    {odK : Option Addr}
    {nK : Nat}
    {slK : Array (Option Value)}
    (aC_Event : PySem.W.nsIn K mainGlobals "Event" = some (some (.ref C_Event)))
    (pg_Event : PySem.W.plainGet K C_Event Str.empty = true)
    (hd_Event : PySem.W.hasDictIn K C_Event = true)
    (po_Event : PySem.W.plainOver K C_Event = true)
    (sa_Event : PySem.W.findIn K (.ref C_Event) "__setattr__" = some (some (.builtin "object.__setattr__")))
    (na_Event_name : PySem.W.findIn K (.ref C_Event) "name" = some none)
    (na_Event_end : PySem.W.findIn K (.ref C_Event) "end" = some none)
    (na_Event_kind : PySem.W.findIn K (.ref C_Event) "kind" = some none)
    (na_Event_needs : PySem.W.findIn K (.ref C_Event) "needs" = some none)
    (mk_Event : PySem.W.makesIn K C_Event = true)
    (in_Event : PySem.W.findIn K (.ref C_Event) "__init__" = some (some (.ref f2)))
    (fn_Event : PySem.W.isFn K (.ref f2) = true)
    (kp_Event : PySem.W.keepIn K (.ref C_Event) = true)
    (aC_Order : PySem.W.nsIn K mainGlobals "Order" = some (some (.ref C_Order)))
    (pg_Order : PySem.W.plainGet K C_Order Str.empty = true)
    (hd_Order : PySem.W.hasDictIn K C_Order = true)
    (po_Order : PySem.W.plainOver K C_Order = true)
    (sa_Order : PySem.W.findIn K (.ref C_Order) "__setattr__" = some (some (.builtin "object.__setattr__")))
    (na_Order_events : PySem.W.findIn K (.ref C_Order) "events" = some none)
    (mk_Order : PySem.W.makesIn K C_Order = true)
    (in_Order : PySem.W.findIn K (.ref C_Order) "__init__" = some (some (.ref f4)))
    (fn_Order : PySem.W.isFn K (.ref f4) = true)
    (kp_Order : PySem.W.keepIn K (.ref C_Order) = true)
    (mt_Order_place : PySem.W.findIn K (.ref C_Order) "place" = some (some (.ref f10)))
    (mf_Order_place : PySem.W.isFn K (.ref f10) = true)
    (mt_Order_event : PySem.W.findIn K (.ref C_Order) "event" = some (some (.ref f11)))
    (mf_Order_event : PySem.W.isFn K (.ref f11) = true)
    (aC_World : PySem.W.nsIn K mainGlobals "World" = some (some (.ref C_World)))
    (pg_World : PySem.W.plainGet K C_World Str.empty = true)
    (hd_World : PySem.W.hasDictIn K C_World = true)
    (po_World : PySem.W.plainOver K C_World = true)
    (sa_World : PySem.W.findIn K (.ref C_World) "__setattr__" = some (some (.builtin "object.__setattr__")))
    (na_World_told : PySem.W.findIn K (.ref C_World) "told" = some none)
    (na_World_base : PySem.W.findIn K (.ref C_World) "base" = some none)
    (na_World_factor : PySem.W.findIn K (.ref C_World) "factor" = some none)
    (mk_World : PySem.W.makesIn K C_World = true)
    (in_World : PySem.W.findIn K (.ref C_World) "__init__" = some (some (.ref f8)))
    (fn_World : PySem.W.isFn K (.ref f8) = true)
    (kp_World : PySem.W.keepIn K (.ref C_World) = true)
    (mt_World_answer : PySem.W.findIn K (.ref C_World) "answer" = some (some (.ref f9)))
    (mf_World_answer : PySem.W.isFn K (.ref f9) = true)
    (aC_AskedError : PySem.W.nsIn K mainGlobals "AskedError" = some (some (.ref C_AskedError)))
    (rd_AskedError : PySem.W.readsIn K C_AskedError (.type "type") = true)
    (ga_AskedError : PySem.W.specialIn K (.ref C_AskedError) "__getattribute__" = some (some (.builtin "type.__getattribute__")))
    (vi_AskedError : PySem.W.findCls K (.ref C_AskedError) (.type "type") "__init__" = some (.val (.builtin "ValueError.__init__")))
    (aC_BadOrder : PySem.W.nsIn K mainGlobals "BadOrder" = some (some (.ref C_BadOrder)))
    (xL_BadOrder : K.lookup C_BadOrder = some (excClassObj nm_BadOrder q_BadOrder C_BadOrder N_BadOrder bs_BadOrder [.ref C_AskedError, .type "ValueError", .type "Exception", .type "BaseException", .type "object"] true sn_BadOrder sub_BadOrder ab_BadOrder col_BadOrder dd_BadOrder m0_BadOrder m1_BadOrder m2_BadOrder m3_BadOrder m5_BadOrder "ValueError.__new__"))
    (sa_BadOrder : PySem.W.findIn K (.ref C_BadOrder) "__setattr__" = some (some (.builtin "object.__setattr__")))
    (xa_BadOrder : PySem.W.findIn K (.ref C_BadOrder) "__getattribute__" = some (some (.builtin "BaseException.__getattribute__")))
    (xg_BadOrder : PySem.W.findIn K (.ref C_BadOrder) "__getattr__" = some none)
    (na_BadOrder_what : PySem.W.findIn K (.ref C_BadOrder) "what" = some none)
    (na_BadOrder_name : PySem.W.findIn K (.ref C_BadOrder) "name" = some none)
    (in_BadOrder : PySem.W.findIn K (.ref C_BadOrder) "__init__" = some (some (.ref f5)))
    (ti_BadOrder : PySem.W.typeIn K (.ref f5) = some (.type "function"))
    (kp_BadOrder : PySem.W.keepIn K (.ref C_BadOrder) = true)
    (ex_BadOrder : PySem.W.subIn K (.ref C_BadOrder) (.type "BaseException") = some true)
    (ty_BadOrder : PySem.W.typeIn K (.ref C_BadOrder) = some (.type "type"))
    (hd_BadOrder : PySem.W.hasDictIn K C_BadOrder = true)
    (ic_BadOrder : PySem.W.isClsIn K C_BadOrder = true)
    (sc_BadOrder : PySem.W.subIn K (.ref C_BadOrder) (.ref C_BadOrder) = some true)
    (a0 : PySem.W.nsIn K mainGlobals "is_whole" = some (some (.ref f0)))
    (l0 : K.lookup f0 = some ⟨oc0, od0, .func (PySem.W.fnOf "is_whole" "is_whole" (defArgs s_is_whole) (defBody s_is_whole) (defScope s_is_whole) .none kV0 dc0 pm0 an0 cd0 ct0), sl0⟩)
    (c0 : PySem.W.codeIn K cd0 "is_whole" = true)
    (k0 : PySem.W.keepIn K (.ref f0) = true)
    (a1 : PySem.W.nsIn K mainGlobals "is_name" = some (some (.ref f1)))
    (l1 : K.lookup f1 = some ⟨oc1, od1, .func (PySem.W.fnOf "is_name" "is_name" (defArgs s_is_name) (defBody s_is_name) (defScope s_is_name) .none kV1 dc1 pm1 an1 cd1 ct1), sl1⟩)
    (c1 : PySem.W.codeIn K cd1 "is_name" = true)
    (k1 : PySem.W.keepIn K (.ref f1) = true)
    (l2 : K.lookup f2 = some ⟨oc2, od2, .func (PySem.W.fnOf "__init__" "Event.__init__" (defArgs s_Event___init) (defBody s_Event___init) (defScope s_Event___init) (.ref TT2) kV2 dc2 pm2 an2 cd2 ct2), sl2⟩)
    (c2 : PySem.W.codeIn K cd2 "Event.__init__" = true)
    (k2 : PySem.W.keepIn K (.ref f2) = true)
    (lT2 : K.lookup TT2 = some ⟨ocT2, odT2, .seq #[.ref E0] nT2, slT2⟩)
    (a3 : PySem.W.nsIn K mainGlobals "event_fault" = some (some (.ref f3)))
    (l3 : K.lookup f3 = some ⟨oc3, od3, .func (PySem.W.fnOf "event_fault" "event_fault" (defArgs s_event_fault) (defBody s_event_fault) (defScope s_event_fault) .none kV3 dc3 pm3 an3 cd3 ct3), sl3⟩)
    (c3 : PySem.W.codeIn K cd3 "event_fault" = true)
    (k3 : PySem.W.keepIn K (.ref f3) = true)
    (l4 : K.lookup f4 = some ⟨oc4, od4, .func (PySem.W.fnOf "__init__" "Order.__init__" (defArgs s_Order___init) (defBody s_Order___init) (defScope s_Order___init) .none kV4 dc4 pm4 an4 cd4 ct4), sl4⟩)
    (c4 : PySem.W.codeIn K cd4 "Order.__init__" = true)
    (k4 : PySem.W.keepIn K (.ref f4) = true)
    (l5 : K.lookup f5 = some ⟨oc5, od5, .func (PySem.W.fnOf "__init__" "BadOrder.__init__" (defArgs s_BadOrder___init) (defBody s_BadOrder___init) (defScope s_BadOrder___init) .none kV5 dc5 pm5 an5 cd5 ct5), sl5⟩)
    (c5 : PySem.W.codeIn K cd5 "BadOrder.__init__" = true)
    (k5 : PySem.W.keepIn K (.ref f5) = true)
    (a6 : PySem.W.nsIn K mainGlobals "is_row" = some (some (.ref f6)))
    (l6 : K.lookup f6 = some ⟨oc6, od6, .func (PySem.W.fnOf "is_row" "is_row" (defArgs s_is_row) (defBody s_is_row) (defScope s_is_row) .none kV6 dc6 pm6 an6 cd6 ct6), sl6⟩)
    (c6 : PySem.W.codeIn K cd6 "is_row" = true)
    (k6 : PySem.W.keepIn K (.ref f6) = true)
    (a7 : PySem.W.nsIn K mainGlobals "is_entry" = some (some (.ref f7)))
    (l7 : K.lookup f7 = some ⟨oc7, od7, .func (PySem.W.fnOf "is_entry" "is_entry" (defArgs s_is_entry) (defBody s_is_entry) (defScope s_is_entry) .none kV7 dc7 pm7 an7 cd7 ct7), sl7⟩)
    (c7 : PySem.W.codeIn K cd7 "is_entry" = true)
    (k7 : PySem.W.keepIn K (.ref f7) = true)
    (l8 : K.lookup f8 = some ⟨oc8, od8, .func (PySem.W.fnOf "__init__" "World.__init__" (defArgs s_World___init) (defBody s_World___init) (defScope s_World___init) (.ref TT8) kV8 dc8 pm8 an8 cd8 ct8), sl8⟩)
    (c8 : PySem.W.codeIn K cd8 "World.__init__" = true)
    (k8 : PySem.W.keepIn K (.ref f8) = true)
    (lT8 : K.lookup TT8 = some ⟨ocT8, odT8, .seq #[.ref E1, .int 0 tw1, .int 0 tw2] nT8, slT8⟩)
    (l9 : K.lookup f9 = some ⟨oc9, od9, .func (PySem.W.fnOf "answer" "World.answer" (defArgs s_World_answer) (defBody s_World_answer) (defScope s_World_answer) .none kV9 dc9 pm9 an9 cd9 ct9), sl9⟩)
    (c9 : PySem.W.codeIn K cd9 "World.answer" = true)
    (k9 : PySem.W.keepIn K (.ref f9) = true)
    (l10 : K.lookup f10 = some ⟨oc10, od10, .func (PySem.W.fnOf "place" "Order.place" (defArgs s_Order_place) (defBody s_Order_place) (defScope s_Order_place) .none kV10 dc10 pm10 an10 cd10 ct10), sl10⟩)
    (c10 : PySem.W.codeIn K cd10 "Order.place" = true)
    (k10 : PySem.W.keepIn K (.ref f10) = true)
    (l11 : K.lookup f11 = some ⟨oc11, od11, .func (PySem.W.fnOf "event" "Order.event" (defArgs s_Order_event) (defBody s_Order_event) (defScope s_Order_event) .none kV11 dc11 pm11 an11 cd11 ct11), sl11⟩)
    (c11 : PySem.W.codeIn K cd11 "Order.event" = true)
    (k11 : PySem.W.keepIn K (.ref f11) = true)
    (a12 : PySem.W.nsIn K mainGlobals "true_run" = some (some (.ref f12)))
    (l12 : K.lookup f12 = some ⟨oc12, od12, .func (PySem.W.fnOf "true_run" "true_run" (defArgs s_true_run) (defBody s_true_run) (defScope s_true_run) .none kV12 dc12 pm12 an12 cd12 ct12), sl12⟩)
    (c12 : PySem.W.codeIn K cd12 "true_run" = true)
    (k12 : PySem.W.keepIn K (.ref f12) = true)
    (a13 : PySem.W.nsIn K mainGlobals "true_keys" = some (some (.ref f13)))
    (l13 : K.lookup f13 = some ⟨oc13, od13, .func (PySem.W.fnOf "true_keys" "true_keys" (defArgs s_true_keys) (defBody s_true_keys) (defScope s_true_keys) .none kV13 dc13 pm13 an13 cd13 ct13), sl13⟩)
    (c13 : PySem.W.codeIn K cd13 "true_keys" = true)
    (k13 : PySem.W.keepIn K (.ref f13) = true)
    (a14 : PySem.W.nsIn K mainGlobals "false_ask" = some (some (.ref f14)))
    (l14 : K.lookup f14 = some ⟨oc14, od14, .func (PySem.W.fnOf "false_ask" "false_ask" (defArgs s_false_ask) (defBody s_false_ask) (defScope s_false_ask) .none kV14 dc14 pm14 an14 cd14 ct14), sl14⟩)
    (c14 : PySem.W.codeIn K cd14 "false_ask" = true)
    (k14 : PySem.W.keepIn K (.ref f14) = true)
    (a15 : PySem.W.nsIn K mainGlobals "true_beat" = some (some (.ref f15)))
    (l15 : K.lookup f15 = some ⟨oc15, od15, .func (PySem.W.fnOf "true_beat" "true_beat" (defArgs s_true_beat) (defBody s_true_beat) (defScope s_true_beat) .none kV15 dc15 pm15 an15 cd15 ct15), sl15⟩)
    (c15 : PySem.W.codeIn K cd15 "true_beat" = true)
    (k15 : PySem.W.keepIn K (.ref f15) = true)
    (a16 : PySem.W.nsIn K mainGlobals "_law_bag" = some (some (.ref f16)))
    (l16 : K.lookup f16 = some ⟨oc16, od16, .func (PySem.W.fnOf "_law_bag" "_law_bag" (defArgs s_law_bag) (defBody s_law_bag) (defScope s_law_bag) .none kV16 dc16 pm16 an16 cd16 ct16), sl16⟩)
    (c16 : PySem.W.codeIn K cd16 "_law_bag" = true)
    (k16 : PySem.W.keepIn K (.ref f16) = true)
    (a17 : PySem.W.nsIn K mainGlobals "_law_draw" = some (some (.ref f17)))
    (l17 : K.lookup f17 = some ⟨oc17, od17, .func (PySem.W.fnOf "_law_draw" "_law_draw" (defArgs s_law_draw) (defBody s_law_draw) (defScope s_law_draw) .none kV17 dc17 pm17 an17 cd17 ct17), sl17⟩)
    (c17 : PySem.W.codeIn K cd17 "_law_draw" = true)
    (k17 : PySem.W.keepIn K (.ref f17) = true)
    (a18 : PySem.W.nsIn K mainGlobals "_law_answer" = some (some (.ref f18)))
    (l18 : K.lookup f18 = some ⟨oc18, od18, .func (PySem.W.fnOf "_law_answer" "_law_answer" (defArgs s_law_answer) (defBody s_law_answer) (defScope s_law_answer) .none kV18 dc18 pm18 an18 cd18 ct18), sl18⟩)
    (c18 : PySem.W.codeIn K cd18 "_law_answer" = true)
    (k18 : PySem.W.keepIn K (.ref f18) = true)
    (a19 : PySem.W.nsIn K mainGlobals "_law_true" = some (some (.ref f19)))
    (l19 : K.lookup f19 = some ⟨oc19, od19, .func (PySem.W.fnOf "_law_true" "_law_true" (defArgs s_law_true) (defBody s_law_true) (defScope s_law_true) .none kV19 dc19 pm19 an19 cd19 ct19), sl19⟩)
    (c19 : PySem.W.codeIn K cd19 "_law_true" = true)
    (k19 : PySem.W.keepIn K (.ref f19) = true)
    (a20 : PySem.W.nsIn K mainGlobals "_law_told" = some (some (.ref f20)))
    (l20 : K.lookup f20 = some ⟨oc20, od20, .func (PySem.W.fnOf "_law_told" "_law_told" (defArgs s_law_told) (defBody s_law_told) (defScope s_law_told) .none kV20 dc20 pm20 an20 cd20 ct20), sl20⟩)
    (c20 : PySem.W.codeIn K cd20 "_law_told" = true)
    (k20 : PySem.W.keepIn K (.ref f20) = true)
    (a21 : PySem.W.nsIn K mainGlobals "_law_made_world" = some (some (.ref f21)))
    (l21 : K.lookup f21 = some ⟨oc21, od21, .func (PySem.W.fnOf "_law_made_world" "_law_made_world" (defArgs s_law_made_world) (defBody s_law_made_world) (defScope s_law_made_world) .none kV21 dc21 pm21 an21 cd21 ct21), sl21⟩)
    (c21 : PySem.W.codeIn K cd21 "_law_made_world" = true)
    (k21 : PySem.W.keepIn K (.ref f21) = true)
    (a22 : PySem.W.nsIn K mainGlobals "_law_drawn_events" = some (some (.ref f22)))
    (l22 : K.lookup f22 = some ⟨oc22, od22, .func (PySem.W.fnOf "_law_drawn_events" "_law_drawn_events" (defArgs s_law_drawn_events) (defBody s_law_drawn_events) (defScope s_law_drawn_events) .none kV22 dc22 pm22 an22 cd22 ct22), sl22⟩)
    (c22 : PySem.W.codeIn K cd22 "_law_drawn_events" = true)
    (k22 : PySem.W.keepIn K (.ref f22) = true)
    (a23 : PySem.W.nsIn K mainGlobals "_law_made" = some (some (.ref f23)))
    (l23 : K.lookup f23 = some ⟨oc23, od23, .func (PySem.W.fnOf "_law_made" "_law_made" (defArgs s_law_made) (defBody s_law_made) (defScope s_law_made) .none kV23 dc23 pm23 an23 cd23 ct23), sl23⟩)
    (c23 : PySem.W.codeIn K cd23 "_law_made" = true)
    (k23 : PySem.W.keepIn K (.ref f23) = true)
    (a24 : PySem.W.nsIn K mainGlobals "_law_event" = some (some (.ref f24)))
    (l24 : K.lookup f24 = some ⟨oc24, od24, .func (PySem.W.fnOf "_law_event" "_law_event" (defArgs s_law_event) (defBody s_law_event) (defScope s_law_event) .none kV24 dc24 pm24 an24 cd24 ct24), sl24⟩)
    (c24 : PySem.W.codeIn K cd24 "_law_event" = true)
    (k24 : PySem.W.keepIn K (.ref f24) = true)
    (a25 : PySem.W.nsIn K mainGlobals "_law_first_true" = some (some (.ref f25)))
    (l25 : K.lookup f25 = some ⟨oc25, od25, .func (PySem.W.fnOf "_law_first_true" "_law_first_true" (defArgs s_law_first_true) (defBody s_law_first_true) (defScope s_law_first_true) .none kV25 dc25 pm25 an25 cd25 ct25), sl25⟩)
    (c25 : PySem.W.codeIn K cd25 "_law_first_true" = true)
    (k25 : PySem.W.keepIn K (.ref f25) = true)
    (a26 : PySem.W.nsIn K mainGlobals "_law_first_false" = some (some (.ref f26)))
    (l26 : K.lookup f26 = some ⟨oc26, od26, .func (PySem.W.fnOf "_law_first_false" "_law_first_false" (defArgs s_law_first_false) (defBody s_law_first_false) (defScope s_law_first_false) .none kV26 dc26 pm26 an26 cd26 ct26), sl26⟩)
    (c26 : PySem.W.codeIn K cd26 "_law_first_false" = true)
    (k26 : PySem.W.keepIn K (.ref f26) = true)
    (a27 : PySem.W.nsIn K mainGlobals "_law_log" = some (some (.ref f27)))
    (l27 : K.lookup f27 = some ⟨oc27, od27, .func (PySem.W.fnOf "_law_log" "_law_log" (defArgs s_law_log) (defBody s_law_log) (defScope s_law_log) .none kV27 dc27 pm27 an27 cd27 ct27), sl27⟩)
    (c27 : PySem.W.codeIn K cd27 "_law_log" = true)
    (k27 : PySem.W.keepIn K (.ref f27) = true)
    (a28 : PySem.W.nsIn K mainGlobals "law" = some (some (.ref f28)))
    (l28 : K.lookup f28 = some ⟨oc28, od28, .func (PySem.W.fnOf "law" "law" (defArgs s_law) (defBody s_law) (defScope s_law) .none kV28 dc28 pm28 an28 cd28 ct28), sl28⟩)
    (c28 : PySem.W.codeIn K cd28 "law" = true)
    (k28 : PySem.W.keepIn K (.ref f28) = true)
    (zLETTERS : PySem.W.nsIn K mainGlobals "LETTERS" = some (some (.str letters tL)))
    (zSIGNS : PySem.W.nsIn K mainGlobals "SIGNS" = some (some (.str signs36 tS)))
    (zENDS : PySem.W.nsIn K mainGlobals "MOST_ENDS" = some (some (.int 5 tE)))
    (zNEEDS : PySem.W.nsIn K mainGlobals "MOST_NEEDS" = some (some (.int 3 tN)))
    (zEVENTS : PySem.W.nsIn K mainGlobals "MOST_EVENTS" = some (some (.int 12 tM)))
    (zKINDS : PySem.W.nsIn K mainGlobals "KINDS" = some (some (.ref aK)))
    (lK : K.lookup aK = some ⟨.type "tuple", odK, .seq #[.str "query" tq, .str "action" ta] nK, slK⟩)
    (z_len : PySem.W.nsIn K mainGlobals "len" = some none)
    (z_abs : PySem.W.nsIn K mainGlobals "abs" = some none)
    (z_sum : PySem.W.nsIn K mainGlobals "sum" = some none)
    (z_max : PySem.W.nsIn K mainGlobals "max" = some none)
    (z_min : PySem.W.nsIn K mainGlobals "min" = some none)
    (z_all : PySem.W.nsIn K mainGlobals "all" = some none)
    (z_any : PySem.W.nsIn K mainGlobals "any" = some none)
    (z_sorted : PySem.W.nsIn K mainGlobals "sorted" = some none)
    (z_isinstance : PySem.W.nsIn K mainGlobals "isinstance" = some none)
    (z_int : PySem.W.nsIn K mainGlobals "int" = some none)
    (z_bool : PySem.W.nsIn K mainGlobals "bool" = some none)
    (z_str : PySem.W.nsIn K mainGlobals "str" = some none)
    (z_list : PySem.W.nsIn K mainGlobals "list" = some none)
    (z_tuple : PySem.W.nsIn K mainGlobals "tuple" = some none)
    (z_range : PySem.W.nsIn K mainGlobals "range" = some none)
    (z_enumerate : PySem.W.nsIn K mainGlobals "enumerate" = some none)
    (z_dict : PySem.W.nsIn K mainGlobals "dict" = some none)
    : ∃ fd : FuncData, (∀ (s : Shared) (v : Value), BindsTo s fd ⟨[v], []⟩ [("script", v)]) ∧ ∀ base : Heap, K.In base → base.Ns mainGlobals mg → FnOk l.prog w K mg base CX0 7 fa fd ["script"] (spLaw K) := by
  have e := hfa.symm.trans (PySem.W.mg_of X G a28)
  cases e
  have T : Txt mg := ⟨PySem.W.mg_none_of X G z_len, PySem.W.mg_none_of X G z_abs, PySem.W.mg_none_of X G z_sum, PySem.W.mg_none_of X G z_max, PySem.W.mg_none_of X G z_min, PySem.W.mg_none_of X G z_all, PySem.W.mg_none_of X G z_any, PySem.W.mg_none_of X G z_sorted, PySem.W.mg_none_of X G z_isinstance, PySem.W.mg_none_of X G z_int, PySem.W.mg_none_of X G z_bool, PySem.W.mg_none_of X G z_str, PySem.W.mg_none_of X G z_list, PySem.W.mg_none_of X G z_tuple, PySem.W.mg_none_of X G z_range, PySem.W.mg_none_of X G z_enumerate, PySem.W.mg_none_of X G z_dict⟩
  refine ⟨PySem.W.fnOf "law" "law" (defArgs s_law) (defBody s_law) (defScope s_law) .none kV28 dc28 pm28 an28 cd28 ct28, fun s v => .of_eq rfl, fun base _ _ => ?_⟩
  have T2 : Txt2 mg tL tS := ⟨T, PySem.W.mg_of X G zLETTERS, PySem.W.mg_of X G zSIGNS⟩
  have T3 : Txt3 K mg tE tN aK := ⟨T, PySem.W.mg_of X G zENDS, PySem.W.mg_of X G zNEEDS, PySem.W.mg_of X G zKINDS, fun H => .tup (.inr ⟨_, _, _, lK, rfl, rfl, Nat.le_of_ble_eq_true rfl, (show Vals [V.str "query", V.str "action"] _ from .cons ⟨_, rfl⟩ (.cons ⟨_, rfl⟩ .nil))⟩) (.cons (.str _) (.cons (.str _) .nil))⟩
  have T4 : Txt4 mg tM := ⟨T, PySem.W.mg_of X G zEVENTS⟩
  have Cl_Event : Cls K C_Event := ⟨pg_Event, hd_Event, po_Event, sa_Event⟩
  have TE : EvT K C_Event := ⟨Cl_Event, na_Event_name, na_Event_end, na_Event_kind, na_Event_needs⟩
  have Cl_Order : Cls K C_Order := ⟨pg_Order, hd_Order, po_Order, sa_Order⟩
  have TO : OrT K C_Order := ⟨Cl_Order, na_Order_events⟩
  have Cl_World : Cls K C_World := ⟨pg_World, hd_World, po_World, sa_World⟩
  have TW : WoT K C_World := ⟨Cl_World, na_World_told, na_World_base, na_World_factor⟩
  have A_AskedError : AskC K C_AskedError ∧ mg "AskedError" = some (.ref C_AskedError) := ⟨⟨rd_AskedError, ga_AskedError, vi_AskedError⟩, PySem.W.mg_of X G aC_AskedError⟩
  have F0 := fun_mk (st := s_is_whole) l0 c0 k0
  have b0 := F0.binds (ps := ["thing"]) fun _ _ _ _ _ _ us hl => match us, hl with | [_], _ => rfl
  let E_is_whole : Dn l.prog w K mg base "is_whole" 1 ["thing"] [] [] spWhole := ⟨f0, _, ok_whole F0 T, PySem.W.mg_of X G a0, k0, b0, .nil⟩
  have F1 := fun_mk (st := s_is_name) l1 c1 k1
  have b1 := F1.binds (ps := ["thing"]) fun _ _ _ _ _ _ us hl => match us, hl with | [_], _ => rfl
  let E_is_name : Dn l.prog w K mg base "is_name" 1 ["thing"] [] [] spName := ⟨f1, _, ok_name F1 T2, PySem.W.mg_of X G a1, k1, b1, .nil⟩
  have F2 : FunD K "__init__" "Event.__init__" (defArgs s_Event___init) (defBody s_Event___init) (defScope s_Event___init) [.ref E0] [] f2 _ := ⟨⟨_, _, _, _, _, _, _, _, _, _, rfl, l2, c2, .inr ⟨by simp, TT2, _, [.ref E0], nT2, rfl, lT2, rfl, .cons rfl .nil⟩, .inl rfl⟩, k2⟩
  obtain ⟨dw2, hv2, b2⟩ := F2.binds1 (ps := ["self", "name", "end", "kind", "needs"]) 5 1 (by simp) rfl fun T kV doc pm an cdv ct us its h1 h2 => match us, its, h1, h2 with | [x0, x1, x2, x3, x4], [y0], _, _ => ⟨_, rfl, rfl⟩
  cases hv2
  let M_Event : Mn l.prog w K mg base "Event" 1 ["self", "name", "end", "kind", "needs"] [] [] spEv := ⟨C_Event, f2, _, ⟨mk_Event, in_Event, fn_Event, kp_Event⟩, Cl_Event, ok_event F2 T TE, PySem.W.mg_of X G aC_Event, b2, .nil⟩
  have F3 := fun_mk (st := s_event_fault) l3 c3 k3
  have b3 := F3.binds (ps := ["event", "elder"]) fun _ _ _ _ _ _ us hl => match us, hl with | [_, _], _ => rfl
  let E_event_fault : Dn l.prog w K mg base "event_fault" 2 ["event", "elder"] [] [] (spFault C_Event) := ⟨f3, _, ok_fault F3 T3 TE E_is_name E_is_whole, PySem.W.mg_of X G a3, k3, b3, .nil⟩
  have F4 := fun_mk (st := s_Order___init) l4 c4 k4
  have b4 := F4.binds (ps := ["self", "events"]) fun _ _ _ _ _ _ us hl => match us, hl with | [_, _], _ => rfl
  let M_Order : Mn l.prog w K mg base "Order" 3 ["self", "events"] [] [] (spOrder C_Event) := ⟨C_Order, f4, _, ⟨mk_Order, in_Order, fn_Order, kp_Order⟩, Cl_Order, ok_order F4 T4 TO TE E_event_fault, PySem.W.mg_of X G aC_Order, b4, .nil⟩
  have F5 := fun_mk (st := s_BadOrder___init) l5 c5 k5
  have b5 := F5.binds (ps := ["self", "what", "name"]) fun _ _ _ _ _ _ us hl => match us, hl with | [_, _, _], _ => rfl
  have To_BadOrder : OexC K C_BadOrder := ⟨⟨nm_BadOrder, q_BadOrder, N_BadOrder, bs_BadOrder, _, sn_BadOrder, sub_BadOrder, ab_BadOrder, col_BadOrder, dd_BadOrder, m0_BadOrder, m1_BadOrder, m2_BadOrder, m3_BadOrder, m5_BadOrder, xL_BadOrder, (show PySem.HandSPX.refsVE [.type "ValueError", .type "Exception", .type "BaseException", .type "object"] = true by decide +kernel)⟩, sa_BadOrder, ex_BadOrder, ty_BadOrder, kp_BadOrder⟩
  let X_BadOrder : Xn l.prog w K mg base "BadOrder" ["what", "name"] := ⟨C_BadOrder, f5, _, ["self", "what", "name"], To_BadOrder, in_BadOrder, ti_BadOrder, ok_xorder F5 A_AskedError To_BadOrder na_BadOrder_what na_BadOrder_name, b5, PySem.W.mg_of X G aC_BadOrder, ⟨xa_BadOrder, xg_BadOrder, ex_BadOrder, hd_BadOrder⟩, (by simp only [List.forall_mem_cons]; exact ⟨na_BadOrder_what, na_BadOrder_name, fun _ h => nomatch h⟩), exm_self ex_BadOrder ic_BadOrder ty_BadOrder sc_BadOrder⟩
  have F6 := fun_mk (st := s_is_row) l6 c6 k6
  have b6 := F6.binds (ps := ["thing"]) fun _ _ _ _ _ _ us hl => match us, hl with | [_], _ => rfl
  let E_is_row : Dn l.prog w K mg base "is_row" 1 ["thing"] [] [] spRow := ⟨f6, _, ok_row F6 T, PySem.W.mg_of X G a6, k6, b6, .nil⟩
  have F7 := fun_mk (st := s_is_entry) l7 c7 k7
  have b7 := F7.binds (ps := ["thing"]) fun _ _ _ _ _ _ us hl => match us, hl with | [_], _ => rfl
  let E_is_entry : Dn l.prog w K mg base "is_entry" 2 ["thing"] [] [] spIsEn := ⟨f7, _, ok_isentry F7 T E_is_row E_is_name E_is_whole, PySem.W.mg_of X G a7, k7, b7, .nil⟩
  have F8 : FunD K "__init__" "World.__init__" (defArgs s_World___init) (defBody s_World___init) (defScope s_World___init) [.ref E1, .int 0, .int 0] [] f8 _ := ⟨⟨_, _, _, _, _, _, _, _, _, _, rfl, l8, c8, .inr ⟨by simp, TT8, _, [.ref E1, .int 0 tw1, .int 0 tw2], nT8, rfl, lT8, rfl, .cons rfl (.cons ⟨_, rfl⟩ (.cons ⟨_, rfl⟩ .nil))⟩, .inl rfl⟩, k8⟩
  obtain ⟨dw8, hv8, b8⟩ := F8.binds1 (ps := ["self", "told", "base", "factor"]) 4 3 (by simp) rfl fun T kV doc pm an cdv ct us its h1 h2 => match us, its, h1, h2 with | [x0, x1, x2, x3], [y0, y1, y2], _, _ => ⟨_, rfl, rfl⟩
  cases hv8
  let M_World : Mn l.prog w K mg base "World" 3 ["self", "told", "base", "factor"] [] [] spWorld := ⟨C_World, f8, _, ⟨mk_World, in_World, fn_World, kp_World⟩, Cl_World, ok_world F8 T TW E_is_row E_is_entry E_is_whole, PySem.W.mg_of X G aC_World, b8, .nil⟩
  have F9 := fun_mk (st := s_World_answer) l9 c9 k9
  have b9 := F9.binds (ps := ["self", "name", "key"]) fun _ _ _ _ _ _ us hl => match us, hl with | [_, _, _], _ => rfl
  let Q_answer : Mt l.prog w K mg base C_World "answer" 1 ["self", "name", "key"] (spAnsP C_World) := ⟨f9, _, Cl_World, ⟨mt_World_answer, mf_World_answer, k9⟩, ok_ansP F9 T TW, b9⟩
  have F10 := fun_mk (st := s_Order_place) l10 c10 k10
  have b10 := F10.binds (ps := ["self", "name"]) fun _ _ _ _ _ _ us hl => match us, hl with | [_, _], _ => rfl
  let Q_place : Mt l.prog w K mg base C_Order "place" 1 ["self", "name"] (spPlace C_Order C_Event) := ⟨f10, _, Cl_Order, ⟨mt_Order_place, mf_Order_place, k10⟩, ok_place F10 T TO TE, b10⟩
  have F11 := fun_mk (st := s_Order_event) l11 c11 k11
  have b11 := F11.binds (ps := ["self", "name"]) fun _ _ _ _ _ _ us hl => match us, hl with | [_, _], _ => rfl
  let Q_event : Mt l.prog w K mg base C_Order "event" 2 ["self", "name"] (spEvent C_Order C_Event) := ⟨f11, _, Cl_Order, ⟨mt_Order_event, mf_Order_event, k11⟩, ok_oevent F11 T TO Q_place, b11⟩
  have F12 := fun_mk (st := s_true_run) l12 c12 k12
  have b12 := F12.binds (ps := ["order", "world"]) fun _ _ _ _ _ _ us hl => match us, hl with | [_, _], _ => rfl
  let E_true_run : Dn l.prog w K mg base "true_run" 2 ["order", "world"] [] [] (spRun C_Order C_Event C_World) := ⟨f12, _, ok_run F12 T TO TE Q_answer, PySem.W.mg_of X G a12, k12, b12, .nil⟩
  have F13 := fun_mk (st := s_true_keys) l13 c13 k13
  have b13 := F13.binds (ps := ["order", "world"]) fun _ _ _ _ _ _ us hl => match us, hl with | [_, _], _ => rfl
  let E_true_keys : Dn l.prog w K mg base "true_keys" 3 ["order", "world"] [] [] (spKeys C_Order C_Event C_World) := ⟨f13, _, ok_keys F13 T E_true_run, PySem.W.mg_of X G a13, k13, b13, .nil⟩
  have F14 := fun_mk (st := s_false_ask) l14 c14 k14
  have b14 := F14.binds (ps := ["order", "world", "asks"]) fun _ _ _ _ _ _ us hl => match us, hl with | [_, _, _], _ => rfl
  let E_false_ask : Dn l.prog w K mg base "false_ask" 4 ["order", "world", "asks"] [] [] (spFalse C_Order C_Event C_World) := ⟨f14, _, ok_false F14 T TE Q_event E_true_keys, PySem.W.mg_of X G a14, k14, b14, .nil⟩
  have F15 := fun_mk (st := s_true_beat) l15 c15 k15
  have b15 := F15.binds (ps := ["order", "world", "asks", "name"]) fun _ _ _ _ _ _ us hl => match us, hl with | [_, _, _, _], _ => rfl
  let E_true_beat : Dn l.prog w K mg base "true_beat" 4 ["order", "world", "asks", "name"] [] [] (spBeat C_Order C_Event C_World) := ⟨f15, _, ok_beat F15 T TE Q_event E_true_keys, PySem.W.mg_of X G a15, k15, b15, .nil⟩
  let S_place : Mx l.prog w K mg base C_Order "place" 3 ["self", "name"] (spPlaceX C_Order C_Event C_BadOrder) := ⟨f10, _, Cl_Order, ⟨mt_Order_place, mf_Order_place, k10⟩, ok_placeX F10 T TO TE X_BadOrder, b10⟩
  let S_event : Mx l.prog w K mg base C_Order "event" 4 ["self", "name"] (spEventX C_Order C_Event C_BadOrder) := ⟨f11, _, Cl_Order, ⟨mt_Order_event, mf_Order_event, k11⟩, ok_oeventX F11 T TO S_place, b11⟩
  let R_true_beat : Dx l.prog w K mg base "true_beat" 5 ["order", "world", "asks", "name"] (spBeatX C_Order C_Event C_World C_BadOrder) := ⟨f15, _, ok_beatX F15 T TE S_event E_true_keys, PySem.W.mg_of X G a15, k15, b15⟩
  have F16 := fun_mk (st := s_law_bag) l16 c16 k16
  have b16 := F16.binds (ps := ["script"]) fun _ _ _ _ _ _ us hl => match us, hl with | [_], _ => rfl
  let E_law_bag : Dr l.prog w K mg base "_law_bag" 1 ["script"] (spBag K) := ⟨f16, _, ok_bag F16 T, PySem.W.mg_of X G a16, k16, b16, .nil⟩
  have F17 := fun_mk (st := s_law_draw) l17 c17 k17
  have b17 := F17.binds (ps := ["bag", "limit"]) fun _ _ _ _ _ _ us hl => match us, hl with | [_, _], _ => rfl
  let E_law_draw : Dn l.prog w K mg base "_law_draw" 1 ["bag", "limit"] [] [] spDraw := ⟨f17, _, ok_draw F17 T, PySem.W.mg_of X G a17, k17, b17, .nil⟩
  have F18 := fun_mk (st := s_law_answer) l18 c18 k18
  have b18 := F18.binds (ps := ["world", "name", "key"]) fun _ _ _ _ _ _ us hl => match us, hl with | [_, _, _], _ => rfl
  let E_law_answer : Dn l.prog w K mg base "_law_answer" 1 ["world", "name", "key"] [] [] (spAns l.prog w) := ⟨f18, _, ok_answer F18 T, PySem.W.mg_of X G a18, k18, b18, .nil⟩
  have F19 := fun_mk (st := s_law_true) l19 c19 k19
  have b19 := F19.binds (ps := ["events", "world"]) fun _ _ _ _ _ _ us hl => match us, hl with | [_, _], _ => rfl
  let E_law_true : Dn l.prog w K mg base "_law_true" 2 ["events", "world"] [] [] (spTrue l.prog w) := ⟨f19, _, ok_true F19 T E_law_answer, PySem.W.mg_of X G a19, k19, b19, .nil⟩
  have F20 := fun_mk (st := s_law_told) l20 c20 k20
  have b20 := F20.binds (ps := ["world"]) fun _ _ _ _ _ _ us hl => match us, hl with | [_], _ => rfl
  let E_law_told : Dn l.prog w K mg base "_law_told" 1 ["world"] [] [] (spToldL l.prog w) := ⟨f20, _, ok_ltold F20 T, PySem.W.mg_of X G a20, k20, b20, .nil⟩
  have F21 := fun_mk (st := s_law_made_world) l21 c21 k21
  have b21 := F21.binds (ps := ["bag", "events"]) fun _ _ _ _ _ _ us hl => match us, hl with | [_, _], _ => rfl
  let E_law_made_world : Dn l.prog w K mg base "_law_made_world" 3 ["bag", "events"] [] [] (spMade l.prog w) := ⟨f21, _, ok_made F21 T E_law_draw E_law_true, PySem.W.mg_of X G a21, k21, b21, .nil⟩
  have F22 := fun_mk (st := s_law_drawn_events) l22 c22 k22
  have b22 := F22.binds (ps := ["bag", "ends", "most"]) fun _ _ _ _ _ _ us hl => match us, hl with | [_, _, _], _ => rfl
  let E_law_drawn_events : Dn l.prog w K mg base "_law_drawn_events" 2 ["bag", "ends", "most"] [] [] spDrawn := ⟨f22, _, ok_drawn F22 T E_law_draw, PySem.W.mg_of X G a22, k22, b22, .nil⟩
  have F23 := fun_mk (st := s_law_made) l23 c23 k23
  have b23 := F23.binds (ps := ["events"]) fun _ _ _ _ _ _ us hl => match us, hl with | [_], _ => rfl
  let E_law_made : Dn l.prog w K mg base "_law_made" 5 ["events"] [] [] (spOrderOf C_Order C_Event) := ⟨f23, _, ok_order_of F23 (dv := []) (dw := []) T M_Event M_Order, PySem.W.mg_of X G a23, k23, b23, .nil⟩
  have F24 := fun_mk (st := s_law_event) l24 c24 k24
  have b24 := F24.binds (ps := ["events", "name"]) fun _ _ _ _ _ _ us hl => match us, hl with | [_, _], _ => rfl
  let E_law_event : Dn l.prog w K mg base "_law_event" 1 ["events", "name"] [] [] spLEv := ⟨f24, _, ok_lev F24 T, PySem.W.mg_of X G a24, k24, b24, .nil⟩
  have F25 := fun_mk (st := s_law_first_true) l25 c25 k25
  have b25 := F25.binds (ps := ["events", "world", "asks", "name"]) fun _ _ _ _ _ _ us hl => match us, hl with | [_, _, _, _], _ => rfl
  let E_law_first_true : Dn l.prog w K mg base "_law_first_true" 3 ["events", "world", "asks", "name"] [] [] (spLFT l.prog w) := ⟨f25, _, ok_lft F25 T E_law_true, PySem.W.mg_of X G a25, k25, b25, .nil⟩
  have F26 := fun_mk (st := s_law_first_false) l26 c26 k26
  have b26 := F26.binds (ps := ["events", "world", "asks"]) fun _ _ _ _ _ _ us hl => match us, hl with | [_, _, _], _ => rfl
  let E_law_first_false : Dn l.prog w K mg base "_law_first_false" 3 ["events", "world", "asks"] [] [] (spLFF l.prog w) := ⟨f26, _, ok_lff F26 T E_law_true E_law_event, PySem.W.mg_of X G a26, k26, b26, .nil⟩
  have F27 := fun_mk (st := s_law_log) l27 c27 k27
  have b27 := F27.binds (ps := ["bag", "events", "world"]) fun _ _ _ _ _ _ us hl => match us, hl with | [_, _, _], _ => rfl
  let E_law_log : Dn l.prog w K mg base "_law_log" 3 ["bag", "events", "world"] [] [] (spLog l.prog w) := ⟨f27, _, ok_log F27 T E_law_draw E_law_true E_law_answer, PySem.W.mg_of X G a27, k27, b27, .nil⟩
  exact ok_law (fun_mk (st := s_law) l28 c28 k28) T M_World X_BadOrder E_law_bag E_law_drawn_events E_law_made_world E_law_made E_law_told E_law_log E_false_ask E_true_beat E_law_first_true E_law_first_false R_true_beat
theorem walk {l : PySem.W.OpenLaw} {q : Program} {loose : List Str} {XP : (Str → Option Value) → Heap → Prop} {YP : World → Heap → Prop} {d : DefRec} {K : Params → PySem.W.Frag} (hn : l.most = some 63) (hdf : d.params.defaults = [])
    (hY : ∀ (w : World) (h : Heap), YP w h → (K w.params).In h)
    (F : ∀ (w : World) (mg : Str → Option Value) (fa : Addr) (h : Heap), (K w.params).In h → h.Ns mainGlobals mg → mg d.name = some (.ref fa) →
      ∃ fd : FuncData, (∀ (s : Shared) (u : Value), BindsTo s fd ⟨[u], []⟩ [("script", u)]) ∧ ∀ base : Heap, (K w.params).In base → base.Ns mainGlobals mg → FnOk l.prog w (K w.params) mg base CX0 7 fa fd ["script"] (spLaw (K w.params))) :
    PySem.W.WalkO q loose XP YP l.row.toRowW d [] (fun f vs => PySem.call f vs) :=
  L2.walk_of (n := 63) (k := 7) (x := "script") (CX := fun _ => CX0) (sp := fun w => spLaw (K w.params)) hn (by decide) hdf ⟨rfl, by decide, by decide⟩ hY F (fun _ _ a ns hl _ hS => ⟨a, ns, rfl, hS, hl, fun _ => rfl⟩) fun _ _ _ _ _ z => z
end Toy
open PySem PySem.W PyProof.Rows in
set_option maxRecDepth 100000 in
set_option maxHeartbeats 0 in
theorem PySem.Challenge.cw_askedtrue_k04_whole_false_asks_of_every_holds : PySem.Challenge.rw_askedtrue_k04_whole_false_asks_of_every.Holds := by
  w_on; o_law; k_head; (case hw => w_witness2)
  k_fill
  refine Toy.walk (l := PySem.Challenge.rw_askedtrue_k04_whole_false_asks_of_every) rfl rfl (fun w h Y => PySem.W.kIn_of Y) ?F
  case F =>
    intro w mg fa h KX G hmg
    refine' Toy.all_mk KX G hmg ?aC_Event ?pg_Event ?hd_Event ?po_Event ?sa_Event ?na_Event_name ?na_Event_end ?na_Event_kind ?na_Event_needs ?mk_Event ?in_Event ?fn_Event ?kp_Event ?aC_Order ?pg_Order ?hd_Order ?po_Order ?sa_Order ?na_Order_events ?mk_Order ?in_Order ?fn_Order ?kp_Order ?mt_Order_place ?mf_Order_place ?mt_Order_event ?mf_Order_event ?aC_World ?pg_World ?hd_World ?po_World ?sa_World ?na_World_told ?na_World_base ?na_World_factor ?mk_World ?in_World ?fn_World ?kp_World ?mt_World_answer ?mf_World_answer ?aC_AskedError ?rd_AskedError ?ga_AskedError ?vi_AskedError ?aC_BadOrder ?xL_BadOrder ?sa_BadOrder ?xa_BadOrder ?xg_BadOrder ?na_BadOrder_what ?na_BadOrder_name ?in_BadOrder ?ti_BadOrder ?kp_BadOrder ?ex_BadOrder ?ty_BadOrder ?hd_BadOrder ?ic_BadOrder ?sc_BadOrder ?a0 ?l0 ?c0 ?k0 ?a1 ?l1 ?c1 ?k1 ?l2 ?c2 ?k2 ?lT2 ?a3 ?l3 ?c3 ?k3 ?l4 ?c4 ?k4 ?l5 ?c5 ?k5 ?a6 ?l6 ?c6 ?k6 ?a7 ?l7 ?c7 ?k7 ?l8 ?c8 ?k8 ?lT8 ?l9 ?c9 ?k9 ?l10 ?c10 ?k10 ?l11 ?c11 ?k11 ?a12 ?l12 ?c12 ?k12 ?a13 ?l13 ?c13 ?k13 ?a14 ?l14 ?c14 ?k14 ?a15 ?l15 ?c15 ?k15 ?a16 ?l16 ?c16 ?k16 ?a17 ?l17 ?c17 ?k17 ?a18 ?l18 ?c18 ?k18 ?a19 ?l19 ?c19 ?k19 ?a20 ?l20 ?c20 ?k20 ?a21 ?l21 ?c21 ?k21 ?a22 ?l22 ?c22 ?k22 ?a23 ?l23 ?c23 ?k23 ?a24 ?l24 ?c24 ?k24 ?a25 ?l25 ?c25 ?k25 ?a26 ?l26 ?c26 ?k26 ?a27 ?l27 ?c27 ?k27 ?a28 ?l28 ?c28 ?k28 ?zLETTERS ?zSIGNS ?zENDS ?zNEEDS ?zEVENTS ?zKINDS ?lK ?z_len ?z_abs ?z_sum ?z_max ?z_min ?z_all ?z_any ?z_sorted ?z_isinstance ?z_int ?z_bool ?z_str ?z_list ?z_tuple ?z_range ?z_enumerate ?z_dict
    (case aC_Event => k_is)
    (case pg_Event => k_is)
    (case hd_Event => k_is)
    (case po_Event => k_is)
    (case sa_Event => k_is)
    (case na_Event_name => k_is)
    (case na_Event_end => k_is)
    (case na_Event_kind => k_is)
    (case na_Event_needs => k_is)
    (case mk_Event => k_is)
    (case in_Event => k_is)
    (case fn_Event => k_is)
    (case kp_Event => k_is)
    (case aC_Order => k_is)
    (case pg_Order => k_is)
    (case hd_Order => k_is)
    (case po_Order => k_is)
    (case sa_Order => k_is)
    (case na_Order_events => k_is)
    (case mk_Order => k_is)
    (case in_Order => k_is)
    (case fn_Order => k_is)
    (case kp_Order => k_is)
    (case mt_Order_place => k_is)
    (case mf_Order_place => k_is)
    (case mt_Order_event => k_is)
    (case mf_Order_event => k_is)
    (case aC_World => k_is)
    (case pg_World => k_is)
    (case hd_World => k_is)
    (case po_World => k_is)
    (case sa_World => k_is)
    (case na_World_told => k_is)
    (case na_World_base => k_is)
    (case na_World_factor => k_is)
    (case mk_World => k_is)
    (case in_World => k_is)
    (case fn_World => k_is)
    (case kp_World => k_is)
    (case mt_World_answer => k_is)
    (case mf_World_answer => k_is)
    (case aC_AskedError => k_is)
    (case rd_AskedError => k_is)
    (case ga_AskedError => k_is)
    (case vi_AskedError => k_is)
    (case aC_BadOrder => k_is)
    (case xL_BadOrder => k_is)
    (case sa_BadOrder => k_is)
    (case xa_BadOrder => k_is)
    (case xg_BadOrder => k_is)
    (case na_BadOrder_what => k_is)
    (case na_BadOrder_name => k_is)
    (case in_BadOrder => k_is)
    (case ti_BadOrder => k_is)
    (case kp_BadOrder => k_is)
    (case ex_BadOrder => k_is)
    (case ty_BadOrder => k_is)
    (case hd_BadOrder => k_is)
    (case ic_BadOrder => k_is)
    (case sc_BadOrder => k_is)
    (case a0 => k_is)
    (case l0 => k_is)
    (case c0 => k_is)
    (case k0 => k_is)
    (case a1 => k_is)
    (case l1 => k_is)
    (case c1 => k_is)
    (case k1 => k_is)
    (case l2 => k_is)
    (case c2 => k_is)
    (case k2 => k_is)
    (case lT2 => k_is)
    (case a3 => k_is)
    (case l3 => k_is)
    (case c3 => k_is)
    (case k3 => k_is)
    (case l4 => k_is)
    (case c4 => k_is)
    (case k4 => k_is)
    (case l5 => k_is)
    (case c5 => k_is)
    (case k5 => k_is)
    (case a6 => k_is)
    (case l6 => k_is)
    (case c6 => k_is)
    (case k6 => k_is)
    (case a7 => k_is)
    (case l7 => k_is)
    (case c7 => k_is)
    (case k7 => k_is)
    (case l8 => k_is)
    (case c8 => k_is)
    (case k8 => k_is)
    (case lT8 => k_is)
    (case l9 => k_is)
    (case c9 => k_is)
    (case k9 => k_is)
    (case l10 => k_is)
    (case c10 => k_is)
    (case k10 => k_is)
    (case l11 => k_is)
    (case c11 => k_is)
    (case k11 => k_is)
    (case a12 => k_is)
    (case l12 => k_is)
    (case c12 => k_is)
    (case k12 => k_is)
    (case a13 => k_is)
    (case l13 => k_is)
    (case c13 => k_is)
    (case k13 => k_is)
    (case a14 => k_is)
    (case l14 => k_is)
    (case c14 => k_is)
    (case k14 => k_is)
    (case a15 => k_is)
    (case l15 => k_is)
    (case c15 => k_is)
    (case k15 => k_is)
    (case a16 => k_is)
    (case l16 => k_is)
    (case c16 => k_is)
    (case k16 => k_is)
    (case a17 => k_is)
    (case l17 => k_is)
    (case c17 => k_is)
    (case k17 => k_is)
    (case a18 => k_is)
    (case l18 => k_is)
    (case c18 => k_is)
    (case k18 => k_is)
    (case a19 => k_is)
    (case l19 => k_is)
    (case c19 => k_is)
    (case k19 => k_is)
    (case a20 => k_is)
    (case l20 => k_is)
    (case c20 => k_is)
    (case k20 => k_is)
    (case a21 => k_is)
    (case l21 => k_is)
    (case c21 => k_is)
    (case k21 => k_is)
    (case a22 => k_is)
    (case l22 => k_is)
    (case c22 => k_is)
    (case k22 => k_is)
    (case a23 => k_is)
    (case l23 => k_is)
    (case c23 => k_is)
    (case k23 => k_is)
    (case a24 => k_is)
    (case l24 => k_is)
    (case c24 => k_is)
    (case k24 => k_is)
    (case a25 => k_is)
    (case l25 => k_is)
    (case c25 => k_is)
    (case k25 => k_is)
    (case a26 => k_is)
    (case l26 => k_is)
    (case c26 => k_is)
    (case k26 => k_is)
    (case a27 => k_is)
    (case l27 => k_is)
    (case c27 => k_is)
    (case k27 => k_is)
    (case a28 => k_is)
    (case l28 => k_is)
    (case c28 => k_is)
    (case k28 => k_is)
    (case zLETTERS => k_is)
    (case zSIGNS => k_is)
    (case zENDS => k_is)
    (case zNEEDS => k_is)
    (case zEVENTS => k_is)
    (case zKINDS => k_is)
    (case lK => k_is)
    (case z_len => k_is)
    (case z_abs => k_is)
    (case z_sum => k_is)
    (case z_max => k_is)
    (case z_min => k_is)
    (case z_all => k_is)
    (case z_any => k_is)
    (case z_sorted => k_is)
    (case z_isinstance => k_is)
    (case z_int => k_is)
    (case z_bool => k_is)
    (case z_str => k_is)
    (case z_list => k_is)
    (case z_tuple => k_is)
    (case z_range => k_is)
    (case z_enumerate => k_is)
    (case z_dict => k_is)
