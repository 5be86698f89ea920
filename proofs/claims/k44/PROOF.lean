import PyProof.Rows.All
import Wide.All
import OpenK.AllK
import Wide.FinOn
import HandS.ForMost
import HandS.Wide
import KE.KDictKeyed
import KE.KeyNested
import HandS.ExcInit
import HandS.IsInst
import HandS.Deep
import HandS.TupAny
import KE.SortData
import HandS.Steps
import KE.KDictSum
import HandS.Defaults
import HandS.Dict
import KE.GoesEnum
import KE.GoesMore
import HandS.Iter
import HandS.SortKw
import HandS.DictEq
import KE.KEqDict
import HandS.Conv
import HandS.DictComp
import HandS.ExcField
import HandS.CallSlots
import HandS.WordsExc
import HandS.ClsMeth
import HandS.List
import HandS.More
import HandS.Style
import HandS.OwnEq
import HandS.Text
import HandS.Exc
import HandS.OwnIter
import HandS.IterVal
import PyProof.TupleIter
import PyProof.WalksMore
import KE.KOwnIter
import HandS.Lambda
import PyProof.NeKinds
import HandS.ExcIs
import HandS.Sort
import HandS.EndTab
import KE.KNest
import KE.KExcSuper
import HandS.ExcSuper
import HandS.Nested
import HandS.FStr
import HandS.MakeKw
import PySem.Challenge.RW_askedtrue_k44_packets_by_pascals_table
set_option Elab.async false
set_option linter.all false
set_option maxRecDepth 100000
set_option maxHeartbeats 4000000
/-! L3: data in place of heaps: what a reading hands on, said of plain data. -/
namespace L3
open PySem L2

/-! ### data -/
inductive D where
  | non | bl (b : Bool) | int (i : Int) | str (s : Str) | lst (xs : List D) | tup (xs : List D) | obj (C : Addr) (fs : List (Str × D)) | adr (a : Addr) | ty (n : String) | dct (kvs : List (L2.Key × D)) | dcn (pr : Program) (wd : World) (kvs : List (D × D)) | er (C : Addr) (fs : List (Str × D))

mutual
/-- a key of a dict as the library tells it -/
def nk : D → NestedKey
  | .int i => .num i
  | .str s => .text s
  | .tup xs => .tup (nkAll xs)
  | _ => .none
def nkAll : List D → List NestedKey
  | [] => []
  | x :: xs => nk x :: nkAll xs
end
mutual
def nkOk : D → Bool
  | .non => true
  | .int _ => true
  | .str _ => true
  | .tup xs => nkOkAll xs
  | _ => false
def nkOkAll : List D → Bool
  | [] => true
  | x :: xs => nkOk x && nkOkAll xs
end
/-- fit for a key of a dict -/
def keyD : D → Bool
  | .tup xs => nkOkAll xs && decide ((nk (.tup xs)).depth ≤ 8)
  | _ => false
def DictBare (pr : Program) (wd : World) (xs : List (NestedKey × Addr × Value)) (a : Addr) (h : Heap) : Prop :=
  ∃ o es ep, h.get? a = some o ∧ o.ExactDict ∧ o.data = .dict es ep ∧ es.toList = xs.map (entryOfKey (nestedKind pr wd)) ∧ (xs.map (·.1)).Nodup
mutual
inductive Rp (K : PySem.W.Frag) (H : Hp) : V → D → Prop
  | non : Rp K H .non .non
  | bl (b : Bool) : Rp K H (.bl b) (.bl b)
  | int (i : Int) : Rp K H (.int i) (.int i)
  | str (x : Str) : Rp K H (.str x) (.str x)
  | lst {a : Addr} {xs : List V} {ds : List D} : Rd H a (.lst xs) → RpAll K H xs ds → Rp K H (.ref a) (.lst ds)
  | tup {a : Addr} {xs : List V} {ds : List D} : SqT K H a xs → RpAll K H xs ds → Rp K H (.ref a) (.tup ds)
  | obj {a C dx : Addr} {fs : List (Str × V)} {ds : List (Str × D)} : H a = some (.ins C dx fs) → RpFs K H fs ds → Rp K H (.ref a) (.obj C ds)
  | adr (a : Addr) : Rp K H (.ref a) (.adr a)
  | ty (n : String) : Rp K H (.ty n) (.ty n)
  | er {a C dx : Addr} {fs : List (Str × V)} {ds : List (Str × D)} : Rd H a (exo a C (some dx)) → Rd H dx (exd dx fs) → RpFs K H fs ds → Rp K H (.ref a) (.er C ds)
  | dct {a : Addr} {xs : List (L2.Key × V)} {kvs : List (L2.Key × D)} : Rd H a (.dK xs) → RpKs K H xs kvs → Rp K H (.ref a) (.dct kvs)
  | dcn {a : Addr} {pr : Program} {wd : World} {xs : List (NestedKey × Addr × Value)} {kvs : List (D × D)} : Rd H a (.ext (DictBare pr wd xs a)) → (a == sysModules) = false → RpNs K H xs kvs → Rp K H (.ref a) (.dcn pr wd kvs)
inductive RpAll (K : PySem.W.Frag) (H : Hp) : List V → List D → Prop
  | nil : RpAll K H [] []
  | cons {v : V} {vs : List V} {d : D} {ds : List D} : Rp K H v d → RpAll K H vs ds → RpAll K H (v :: vs) (d :: ds)
inductive RpFs (K : PySem.W.Frag) (H : Hp) : List (Str × V) → List (Str × D) → Prop
  | nil : RpFs K H [] []
  | cons {x : Str} {v : V} {vs : List (Str × V)} {d : D} {ds : List (Str × D)} : Rp K H v d → RpFs K H vs ds → RpFs K H ((x, v) :: vs) ((x, d) :: ds)
inductive RpKs (K : PySem.W.Frag) (H : Hp) : List (L2.Key × V) → List (L2.Key × D) → Prop
  | nil : RpKs K H [] []
  | cons {x : L2.Key} {v : V} {vs : List (L2.Key × V)} {d : D} {ds : List (L2.Key × D)} : Rp K H v d → RpKs K H vs ds → RpKs K H ((x, v) :: vs) ((x, d) :: ds)
inductive RpNs (K : PySem.W.Frag) (H : Hp) : List (NestedKey × Addr × Value) → List (D × D) → Prop
  | nil : RpNs K H [] []
  | cons {x : NestedKey × Addr × Value} {v : V} {xs : List (NestedKey × Addr × Value)} {kd d : D} {ds : List (D × D)} : keyD kd = true → x.1 = nk kd → Rp K H (.ref x.2.1) kd → RelV v x.2.2 → Rp K H v d → RpNs K H xs ds → RpNs K H (x :: xs) ((kd, d) :: ds)
end

theorem same_rd {H H' : Hp} {a : Addr} {u : HO} (e : Same H H') (h : Rd H a u) : Rd H' a u := by
  rcases h with h | ⟨o, h⟩
  · exact .inl (e a _ h)
  · exact .inr ⟨o, e a _ h⟩
theorem same_l {K : PySem.W.Frag} {H H' : Hp} {a : Addr} {xs : List V} (e : Same H H') (h : SqL K H a xs) : SqL K H' a xs := by
  rcases h with h | h
  · exact .inl (same_rd e h)
  · exact .inr h
theorem same_t {K : PySem.W.Frag} {H H' : Hp} {a : Addr} {xs : List V} (e : Same H H') (h : SqT K H a xs) : SqT K H' a xs := by
  rcases h with h | h
  · exact .inl (same_rd e h)
  · exact .inr h

section
variable {K : PySem.W.Frag} {H H' : Hp}
mutual
theorem Rp.mono (e : Same H H') : ∀ {v : V} {d : D}, Rp K H v d → Rp K H' v d
  | _, _, .non => .non
  | _, _, .bl b => .bl b
  | _, _, .int i => .int i
  | _, _, .str x => .str x
  | _, _, .lst h r => .lst (same_rd e h) (RpAll.mono e r)
  | _, _, .tup h r => .tup (same_t e h) (RpAll.mono e r)
  | _, _, .obj h r => .obj (e _ _ h) (RpFs.mono e r)
  | _, _, .adr a => .adr a
  | _, _, .ty n => .ty n
  | _, _, .er h1 h2 r => .er (same_rd e h1) (same_rd e h2) (RpFs.mono e r)
  | _, _, .dct h r => .dct (same_rd e h) (RpKs.mono e r)
  | _, _, .dcn h s r => .dcn (same_rd e h) s (RpNs.mono e r)
theorem RpAll.mono (e : Same H H') : ∀ {vs : List V} {ds : List D}, RpAll K H vs ds → RpAll K H' vs ds
  | _, _, .nil => .nil
  | _, _, .cons h r => .cons (Rp.mono e h) (RpAll.mono e r)
theorem RpFs.mono (e : Same H H') : ∀ {vs : List (Str × V)} {ds : List (Str × D)}, RpFs K H vs ds → RpFs K H' vs ds
  | _, _, .nil => .nil
  | _, _, .cons h r => .cons (Rp.mono e h) (RpFs.mono e r)
theorem RpKs.mono (e : Same H H') : ∀ {vs : List (L2.Key × V)} {ds : List (L2.Key × D)}, RpKs K H vs ds → RpKs K H' vs ds
  | _, _, .nil => .nil
  | _, _, .cons h r => .cons (Rp.mono e h) (RpKs.mono e r)
theorem RpNs.mono (e : Same H H') : ∀ {vs : List (NestedKey × Addr × Value)} {ds : List (D × D)}, RpNs K H vs ds → RpNs K H' vs ds
  | _, _, .nil => .nil
  | _, _, .cons a b h w v r => .cons a b (Rp.mono e h) w (Rp.mono e v) (RpNs.mono e r)
end
theorem RpAll.length : ∀ {vs : List V} {ds : List D}, RpAll K H vs ds → vs.length = ds.length
  | _, _, .nil => rfl
  | _, _, .cons _ r => by rw [List.length_cons, List.length_cons, RpAll.length r]
theorem RpAll.get : ∀ {vs : List V} {ds : List D} {i : Nat} {v : V}, RpAll K H vs ds → vs[i]? = some v → ∃ d, ds[i]? = some d ∧ Rp K H v d
  | _, _, _, _, .nil, e => by simp at e
  | _, _, 0, _, .cons h _, e => by simp at e; subst e; exact ⟨_, rfl, h⟩
  | _, _, i + 1, _, .cons _ r, e => by
    obtain ⟨d, h1, h2⟩ := RpAll.get (i := i) r (by simpa using e)
    exact ⟨d, by simpa using h1, h2⟩
theorem RpAll.get' : ∀ {vs : List V} {ds : List D} {i : Nat} {d : D}, RpAll K H vs ds → ds[i]? = some d → ∃ v, vs[i]? = some v ∧ Rp K H v d
  | _, _, _, _, .nil, e => by simp at e
  | _, _, 0, _, .cons h _, e => by simp at e; subst e; exact ⟨_, rfl, h⟩
  | _, _, i + 1, _, .cons _ r, e => by
    obtain ⟨d, h1, h2⟩ := RpAll.get' (i := i) r (by simpa using e)
    exact ⟨d, by simpa using h1, h2⟩
theorem RpAll.append : ∀ {vs ws : List V} {ds es : List D}, RpAll K H vs ds → RpAll K H ws es → RpAll K H (vs ++ ws) (ds ++ es)
  | _, _, _, _, .nil, s => s
  | _, _, _, _, .cons h r, s => .cons h (RpAll.append r s)
theorem RpAll.take : ∀ {vs : List V} {ds : List D} (n : Nat), RpAll K H vs ds → RpAll K H (vs.take n) (ds.take n)
  | _, _, 0, _ => .nil
  | _, _, _ + 1, .nil => .nil
  | _, _, n + 1, .cons h r => .cons h (RpAll.take n r)
theorem RpAll.drop : ∀ {vs : List V} {ds : List D} (n : Nat), RpAll K H vs ds → RpAll K H (vs.drop n) (ds.drop n)
  | _, _, 0, r => r
  | _, _, _ + 1, .nil => .nil
  | _, _, n + 1, .cons _ r => RpAll.drop n r
theorem RpAll.set {v : V} {d : D} (h : Rp K H v d) : ∀ {vs : List V} {ds : List D} (i : Nat), RpAll K H vs ds → RpAll K H (vs.set i v) (ds.set i d)
  | _, _, _, .nil => .nil
  | _, _, 0, .cons _ r => .cons h r
  | _, _, i + 1, .cons q r => .cons q (RpAll.set h i r)
theorem RpAll.eraseIdx : ∀ {vs : List V} {ds : List D} (i : Nat), RpAll K H vs ds → RpAll K H (vs.eraseIdx i) (ds.eraseIdx i)
  | _, _, _, .nil => .nil
  | _, _, 0, .cons _ r => r
  | _, _, i + 1, .cons q r => .cons q (RpAll.eraseIdx i r)
theorem RpAll.ints : ∀ {vs : List V} {ns : List Int}, RpAll K H vs (ns.map D.int) → vs = ns.map V.int
  | _, [], h => by cases h; rfl
  | _, n :: ns, h => by
    cases h with
    | cons h r => cases h; rw [RpAll.ints r]; rfl
theorem RpAll.ofInts : ∀ (ns : List Int), RpAll K H (ns.map V.int) (ns.map D.int)
  | [] => .nil
  | n :: ns => .cons (.int n) (RpAll.ofInts ns)
end

/-! ### hidden addresses -/
def hid (O : List Addr) (H : Hp) : Hp := fun a => if a ∈ O then none else H a
theorem hid_in {O : List Addr} {H : Hp} {a : Addr} (h : a ∈ O) : hid O H a = none := if_pos h
theorem hid_out {O : List Addr} {H : Hp} {a : Addr} (h : a ∉ O) : hid O H a = H a := if_neg h
theorem hid_some {O : List Addr} {H : Hp} {a : Addr} {o : HO} : hid O H a = some o ↔ a ∉ O ∧ H a = some o := by
  unfold hid
  by_cases h : a ∈ O
  · rw [if_pos h]; exact ⟨(fun e => nomatch e), fun e => absurd h e.1⟩
  · rw [if_neg h]; exact ⟨fun e => ⟨h, e⟩, fun e => e.2⟩
theorem hid_nil {H : Hp} : hid [] H = H := by
  funext a; exact hid_out (by simp)
theorem same_hid {O : List Addr} {H : Hp} : Same (hid O H) H := fun a o e => (hid_some.mp e).2
theorem same_hid_sub {O O' : List Addr} {H : Hp} (h : ∀ a, a ∈ O → a ∈ O') : Same (hid O' H) (hid O H) := fun a o e => by
  obtain ⟨h1, h2⟩ := hid_some.mp e
  exact hid_some.mpr ⟨fun q => h1 (h a q), h2⟩
theorem same_hid_of {O : List Addr} {H H' : Hp} (e : Same H H') : Same (hid O H) (hid O H') := fun a o q => by
  obtain ⟨h1, h2⟩ := hid_some.mp q
  exact hid_some.mpr ⟨h1, e a o h2⟩
/-- hiding more of two heaps that agree -/
theorem same_hid_more {O B : List Addr} {H H' : Hp} (h : ∀ a, a ∈ B → a ∈ O) (e : Same (hid B H) (hid B H')) : Same (hid O H) (hid O H') := fun a o q => by
  obtain ⟨h1, h2⟩ := hid_some.mp q
  exact hid_some.mpr ⟨h1, (hid_some.mp (e a o (hid_some.mpr ⟨fun q => h1 (h a q), h2⟩))).2⟩
theorem hid_upd_in {O : List Addr} {H : Hp} {a : Addr} {o : HO} (h : a ∈ O) : hid O (upd H a o) = hid O H := by
  funext b
  unfold hid
  by_cases hb : b ∈ O
  · rw [if_pos hb, if_pos hb]
  · rw [if_neg hb, if_neg hb, upd_ne (fun e => hb (by rw [e]; exact h))]
theorem same_upd_new {H : Hp} {p : Addr} {o : HO} (h : H p = none) : Same H (upd H p o) := fun b u e => by
  rw [upd_ne (ne_of_none e h)]; exact e
theorem hid_new_in {O : List Addr} {H : Hp} {p : Addr} {o : HO} (h : H p = none) : hid (p :: O) (upd H p o) = hid O H := by
  funext b
  unfold hid
  by_cases hb : b = p
  · subst hb
    rw [if_pos List.mem_cons_self]
    by_cases h2 : b ∈ O
    · rw [if_pos h2]
    · rw [if_neg h2, h]
  · by_cases h2 : b ∈ O
    · rw [if_pos (List.mem_cons_of_mem _ h2), if_pos h2]
    · rw [if_neg (fun q => by rcases List.mem_cons.mp q with e | e; exact hb e; exact h2 e), if_neg h2, upd_ne hb]

/-! ### the bag: a list of a list of non-negative ints, a turn, a rest -/
def BagOk (b q : Addr) (n : Nat) (H : Hp) : Prop :=
  ∃ (t r : Int) (cs : List Int), H b = some (.lst [.ref q, .int t, .int r]) ∧ H q = some (.lst (cs.map V.int)) ∧ cs ≠ [] ∧ (∀ c ∈ cs, 0 ≤ c) ∧ cs.length ≤ 63 ∧ 0 ≤ t ∧ t ≤ n ∧ 0 ≤ r
theorem BagOk.move {b q : Addr} {n : Nat} {H H' : Hp} (h : BagOk b q n H) (e : ∀ o, H b = some o → H' b = some o) (e2 : ∀ o, H q = some o → H' q = some o) : BagOk b q n H' := by
  obtain ⟨t, r, cs, h1, h2, h3⟩ := h
  exact ⟨t, r, cs, e _ h1, e2 _ h2, h3⟩
theorem BagOk.le {b q : Addr} {n m : Nat} {H : Hp} (h : BagOk b q n H) (hn : n ≤ m) : BagOk b q m H := by
  obtain ⟨t, r, cs, h1, h2, h4, h5, h6, h7, h8, h9⟩ := h
  exact ⟨t, r, cs, h1, h2, h4, h5, h6, h7, by omega, h9⟩
theorem BagOk.lst {b q : Addr} {n : Nat} {H : Hp} (h : BagOk b q n H) : ∃ xs, H b = some (.lst xs) := by
  obtain ⟨t, r, cs, h1, _⟩ := h
  exact ⟨_, h1⟩

/-! ### the context, slots -/
structure Ctx where
  pr : Program
  wd : World
  K : PySem.W.Frag
  /-- owned by callers -/
  O : List Addr
  bag : Option (Addr × Addr)
  /-- the heap at the entry -/
  H0 : Hp
def Ctx.B (c : Ctx) : List Addr := (c.bag.map (·.1)).toList
def Ctx.J (c : Ctx) (n : Nat) (H : Hp) : Prop := ∀ b q, c.bag = some (b, q) → BagOk b q n H
/-- a structure of one's own: its addresses, what it is -/
structure OT where
  ls : List Addr
  R : Program → World → PySem.W.Frag → List Addr → Hp → V → Prop
  mv : ∀ {pr wd K O O' H H' v}, R pr wd K O H v → (∀ l ∈ ls, H' l = H l) → (∀ v d, Rp K (hid O H) v d → Rp K (hid O' H') v d) → R pr wd K O' H' v
  ex : ∀ {pr wd K O H v}, R pr wd K O H v → ∀ l ∈ ls, ∃ o, H l = some o
inductive SD where
  | un
  | val (d : D)
  | own (ds : List D)
  | dic (kvs : List (D × D))
  | dk (kvs : List (L2.Key × D))
  | tw (l : Addr) (kvs : List (D × D)) (ds : List D)
  | ot (T : OT)
/-- one entry -/
def EntD (K : PySem.W.Frag) (H : Hp) (kv : D × D) (x : NestedKey × Addr × Value) : Prop := keyD kv.1 = true ∧ x.1 = nk kv.1 ∧ Rp K H (.ref x.2.1) kv.1 ∧ ∃ v, RelV v x.2.2 ∧ Rp K H v kv.2
def NDict (pr : Program) (wd : World) (K : PySem.W.Frag) (O : List Addr) (H : Hp) (l : Addr) (kvs : List (D × D)) : Prop :=
  ∃ xs, H l = some (.ext (DictBare pr wd xs l)) ∧ (l == sysModules) = false ∧ Paired (EntD K (hid O H)) kvs xs
theorem EntD.mono {K : PySem.W.Frag} {H H' : Hp} {kv : D × D} {x : NestedKey × Addr × Value} (e : Same H H') (h : EntD K H kv x) : EntD K H' kv x := by
  obtain ⟨h1, h2, h3, v, h4, h5⟩ := h
  exact ⟨h1, h2, h3.mono e, v, h4, h5.mono e⟩
theorem Paired.imp' {α β : Type} {R S : α → β → Prop} (f : ∀ a b, R a b → S a b) : ∀ {xs : List α} {ys : List β}, Paired R xs ys → Paired S xs ys
  | _, _, .nil => .nil
  | _, _, .cons h t => .cons (f _ _ h) (Paired.imp' f t)
theorem NDict.move {pr : Program} {wd : World} {K : PySem.W.Frag} {O O' : List Addr} {H H' : Hp} {l : Addr} {kvs : List (D × D)} (h : NDict pr wd K O H l kvs) (hl : H' l = H l) (e : Same (hid O H) (hid O' H')) : NDict pr wd K O' H' l kvs := by
  obtain ⟨xs, h1, h2, h3⟩ := h
  exact ⟨xs, hl.trans h1, h2, Paired.imp' (fun _ _ q => q.mono e) h3⟩
theorem RpNs.pair {K : PySem.W.Frag} {H : Hp} : ∀ {xs : List (NestedKey × Addr × Value)} {kvs : List (D × D)}, RpNs K H xs kvs → Paired (EntD K H) kvs xs
  | _, _, .nil => .nil
  | _, _, .cons a b h w v r => .cons ⟨a, b, h, _, w, v⟩ (RpNs.pair r)
theorem RpNs.of {K : PySem.W.Frag} {H : Hp} : ∀ {kvs : List (D × D)} {xs : List (NestedKey × Addr × Value)}, Paired (EntD K H) kvs xs → RpNs K H xs kvs
  | _, _, .nil => .nil
  | (kd, d) :: _, _, .cons ⟨a, b, h, _, w, v⟩ r => .cons a b h w v (RpNs.of r)
/-- a tuple whose head is a dict of one's own -/
def TDict (pr : Program) (wd : World) (K : PySem.W.Frag) (O : List Addr) (H : Hp) (t l : Addr) (kvs : List (D × D)) (ds : List D) : Prop :=
  ∃ vs, SqT K (hid O H) t (.ref l :: vs) ∧ RpAll K (hid O H) vs ds ∧ NDict pr wd K O H l kvs
theorem TDict.move {pr : Program} {wd : World} {K : PySem.W.Frag} {O O' : List Addr} {H H' : Hp} {t l : Addr} {kvs : List (D × D)} {ds : List D} (h : TDict pr wd K O H t l kvs ds) (hl : H' l = H l) (e : Same (hid O H) (hid O' H')) : TDict pr wd K O' H' t l kvs ds := by
  obtain ⟨vs, h1, h2, h3⟩ := h
  exact ⟨vs, same_t e h1, h2.mono e, h3.move hl e⟩
/-- a dict of one's own whose keys are ints and texts -/
def KDict (pr : Program) (wd : World) (K : PySem.W.Frag) (O : List Addr) (H : Hp) (l : Addr) (kvs : List (L2.Key × D)) : Prop := ∃ xs, H l = some (.dK xs) ∧ RpKs K (hid O H) xs kvs
theorem KDict.move {pr : Program} {wd : World} {K : PySem.W.Frag} {O O' : List Addr} {H H' : Hp} {l : Addr} {kvs : List (L2.Key × D)} (h : KDict pr wd K O H l kvs) (hl : H' l = H l) (e : Same (hid O H) (hid O' H')) : KDict pr wd K O' H' l kvs := by
  obtain ⟨xs, h1, h3⟩ := h
  exact ⟨xs, hl.trans h1, h3.mono e⟩
inductive Slots (pr : Program) (wd : World) (K : PySem.W.Frag) (O : List Addr) (H : Hp) : List (Option V) → List SD → List Addr → Prop
  | nil : Slots pr wd K O H [] [] []
  | un {x : Option V} {σ : List (Option V)} {ρ : List SD} {L : List Addr} : Slots pr wd K O H σ ρ L → Slots pr wd K O H (x :: σ) (.un :: ρ) L
  | val {v : V} {d : D} {σ : List (Option V)} {ρ : List SD} {L : List Addr} : Rp K (hid O H) v d → Slots pr wd K O H σ ρ L → Slots pr wd K O H (some v :: σ) (.val d :: ρ) L
  | own {l : Addr} {xs : List V} {ds : List D} {σ : List (Option V)} {ρ : List SD} {L : List Addr} : H l = some (.lst xs) → RpAll K (hid O H) xs ds → Slots pr wd K O H σ ρ L → Slots pr wd K O H (some (.ref l) :: σ) (.own ds :: ρ) (l :: L)
  | dic {l : Addr} {kvs : List (D × D)} {σ : List (Option V)} {ρ : List SD} {L : List Addr} : NDict pr wd K O H l kvs → Slots pr wd K O H σ ρ L → Slots pr wd K O H (some (.ref l) :: σ) (.dic kvs :: ρ) (l :: L)
  | dk {l : Addr} {kvs : List (L2.Key × D)} {σ : List (Option V)} {ρ : List SD} {L : List Addr} : KDict pr wd K O H l kvs → Slots pr wd K O H σ ρ L → Slots pr wd K O H (some (.ref l) :: σ) (.dk kvs :: ρ) (l :: L)
  | tw {t l : Addr} {kvs : List (D × D)} {ds : List D} {σ : List (Option V)} {ρ : List SD} {L : List Addr} : TDict pr wd K O H t l kvs ds → Slots pr wd K O H σ ρ L → Slots pr wd K O H (some (.ref t) :: σ) (.tw l kvs ds :: ρ) (l :: L)
  | ot {T : OT} {v : V} {σ : List (Option V)} {ρ : List SD} {L M : List Addr} : T.R pr wd K O H v → M = T.ls ++ L → Slots pr wd K O H σ ρ L → Slots pr wd K O H (some v :: σ) (.ot T :: ρ) M
/-- P: what has been seen to stand for good -/
structure Env (c : Ctx) (P : Hp) (L : List Addr) (n : Nat) (H : Hp) (σ : List (Option V)) (ρ : List SD) : Prop where
  nd : L.Nodup
  fresh : ∀ l ∈ L, c.H0 l = none ∧ l ∉ c.O
  slots : ∃ Ls, Slots c.pr c.wd c.K (L ++ c.O) H σ ρ Ls ∧ Ls.Sublist L
  lst : ∀ l ∈ L, ∃ o, H l = some o
  bag : c.J n H
  base : Same (hid c.B c.H0) (hid c.B H)
  pers : Same P (hid (L ++ c.O) H)
  bO : ∀ b q, c.bag = some (b, q) → b ∈ c.O ∧ q ∈ c.O ∧ q ≠ b
  al : ∀ o ∈ c.O, H o ≠ none

section
variable {pr : Program} {wd : World} {K : PySem.W.Frag} {O O' : List Addr} {H H' : Hp} {σ : List (Option V)} {ρ : List SD} {L : List Addr}
theorem Slots.len (s : Slots pr wd K O H σ ρ L) : σ.length = ρ.length := by
  induction s with
  | nil => rfl
  | un _ ih => simp [ih]
  | val _ _ ih => simp [ih]
  | own _ _ _ ih => simp [ih]
  | dic _ _ ih => simp [ih]
  | dk _ _ ih => simp [ih]
  | tw _ _ ih => simp [ih]
  | ot _ _ _ ih => simp [ih]
/-- the owned lists stand, all else that may be seen stands -/
theorem Slots.move (s : Slots pr wd K O H σ ρ L) (hL : ∀ l ∈ L, H' l = H l) (e : Same (hid O H) (hid O' H')) : Slots pr wd K O' H' σ ρ L := by
  induction s with
  | nil => exact .nil
  | un _ ih => exact .un (ih hL)
  | val h _ ih => exact .val (h.mono e) (ih hL)
  | own h1 h2 _ ih => exact .own ((hL _ List.mem_cons_self).trans h1) (h2.mono e) (ih fun l hl => hL l (List.mem_cons_of_mem _ hl))
  | dic h1 _ ih => exact .dic (h1.move (hL _ List.mem_cons_self) e) (ih fun l hl => hL l (List.mem_cons_of_mem _ hl))
  | dk h1 _ ih => exact .dk (h1.move (hL _ List.mem_cons_self) e) (ih fun l hl => hL l (List.mem_cons_of_mem _ hl))
  | tw h1 _ ih => exact .tw (h1.move (hL _ List.mem_cons_self) e) (ih fun l hl => hL l (List.mem_cons_of_mem _ hl))
  | ot h q _ ih => subst q; exact .ot (OT.mv _ h (fun l hl => hL l (List.mem_append_left _ hl)) fun _ _ r => r.mono e) rfl (ih fun l hl => hL l (List.mem_append_right _ hl))
theorem Slots.get {d : D} : ∀ {σ : List (Option V)} {ρ : List SD} {L : List Addr} {i : Nat}, Slots pr wd K O H σ ρ L → ρ[i]? = some (.val d) → ∃ v, σ[i]? = some (some v) ∧ Rp K (hid O H) v d
  | _, _, _, _, .nil, e => by simp at e
  | _, _, _, 0, .un _, e => by simp at e
  | _, _, _, i + 1, .un s, e => by simpa using Slots.get (i := i) s (by simpa using e)
  | _, _, _, 0, .val h _, e => by simp at e; subst e; exact ⟨_, rfl, h⟩
  | _, _, _, i + 1, .val _ s, e => by simpa using Slots.get (i := i) s (by simpa using e)
  | _, _, _, 0, .own _ _ _, e => by simp at e
  | _, _, _, i + 1, .own _ _ s, e => by simpa using Slots.get (i := i) s (by simpa using e)
  | _, _, _, 0, .dic _ _, e => by simp at e
  | _, _, _, 0, .dk _ _, e => by simp at e
  | _, _, _, 0, .tw _ _, e => by simp at e
  | _, _, _, i + 1, .dic _ s, e => by simpa using Slots.get (i := i) s (by simpa using e)
  | _, _, _, i + 1, .dk _ s, e => by simpa using Slots.get (i := i) s (by simpa using e)
  | _, _, _, i + 1, .tw _ s, e => by simpa using Slots.get (i := i) s (by simpa using e)
  | _, _, _, 0, .ot _ _ _, e => by simp at e
  | _, _, _, i + 1, .ot _ _ s, e => by simpa using Slots.get (i := i) s (by simpa using e)
theorem Slots.getO {ds : List D} : ∀ {σ : List (Option V)} {ρ : List SD} {L : List Addr} {i : Nat}, Slots pr wd K O H σ ρ L → ρ[i]? = some (.own ds) → ∃ l xs, σ[i]? = some (some (.ref l)) ∧ l ∈ L ∧ H l = some (.lst xs) ∧ RpAll K (hid O H) xs ds
  | _, _, _, _, .nil, e => by simp at e
  | _, _, _, 0, .un _, e => by simp at e
  | _, _, _, i + 1, .un s, e => by simpa using Slots.getO (i := i) s (by simpa using e)
  | _, _, _, 0, .val _ _, e => by simp at e
  | _, _, _, i + 1, .val _ s, e => by simpa using Slots.getO (i := i) s (by simpa using e)
  | _, _, _, 0, .own h r _, e => by simp at e; subst e; exact ⟨_, _, rfl, List.mem_cons_self, h, r⟩
  | _, _, _, i + 1, .own _ _ s, e => by
    obtain ⟨l, xs, h1, h2, h3⟩ := Slots.getO (i := i) s (by simpa using e)
    exact ⟨l, xs, by simpa using h1, List.mem_cons_of_mem _ h2, h3⟩
  | _, _, _, 0, .dic _ _, e => by simp at e
  | _, _, _, 0, .dk _ _, e => by simp at e
  | _, _, _, 0, .tw _ _, e => by simp at e
  | _, _, _, i + 1, .dic _ s, e => by
    obtain ⟨l, xs, h1, h2, h3⟩ := Slots.getO (i := i) s (by simpa using e)
    exact ⟨l, xs, by simpa using h1, List.mem_cons_of_mem _ h2, h3⟩
  | _, _, _, i + 1, .dk _ s, e => by
    obtain ⟨l, xs, h1, h2, h3⟩ := Slots.getO (i := i) s (by simpa using e)
    exact ⟨l, xs, by simpa using h1, List.mem_cons_of_mem _ h2, h3⟩
  | _, _, _, i + 1, .tw _ s, e => by
    obtain ⟨l, xs, h1, h2, h3⟩ := Slots.getO (i := i) s (by simpa using e)
    exact ⟨l, xs, by simpa using h1, List.mem_cons_of_mem _ h2, h3⟩
  | _, _, _, 0, .ot _ _ _, e => by simp at e
  | _, _, _, i + 1, .ot _ q s, e => by
    obtain ⟨l, xs, h1, h2, h3⟩ := Slots.getO (i := i) s (by simpa using e)
    exact ⟨l, xs, by simpa using h1, by rw [q]; exact List.mem_append_right _ h2, h3⟩
theorem Slots.getD {kvs : List (D × D)} : ∀ {σ : List (Option V)} {ρ : List SD} {L : List Addr} {i : Nat}, Slots pr wd K O H σ ρ L → ρ[i]? = some (.dic kvs) → ∃ l, σ[i]? = some (some (.ref l)) ∧ l ∈ L ∧ NDict pr wd K O H l kvs
  | _, _, _, _, .nil, e => by simp at e
  | _, _, _, 0, .un _, e => by simp at e
  | _, _, _, i + 1, .un s, e => by simpa using Slots.getD (i := i) s (by simpa using e)
  | _, _, _, 0, .val _ _, e => by simp at e
  | _, _, _, i + 1, .val _ s, e => by simpa using Slots.getD (i := i) s (by simpa using e)
  | _, _, _, 0, .own _ _ _, e => by simp at e
  | _, _, _, i + 1, .own _ _ s, e => by
    obtain ⟨l, h1, h2, h3⟩ := Slots.getD (i := i) s (by simpa using e)
    exact ⟨l, by simpa using h1, List.mem_cons_of_mem _ h2, h3⟩
  | _, _, _, 0, .dic h _, e => by simp at e; subst e; exact ⟨_, rfl, List.mem_cons_self, h⟩
  | _, _, _, 0, .dk h _, e => by simp at e
  | _, _, _, 0, .tw h _, e => by simp at e
  | _, _, _, i + 1, .dic _ s, e => by
    obtain ⟨l, h1, h2, h3⟩ := Slots.getD (i := i) s (by simpa using e)
    exact ⟨l, by simpa using h1, List.mem_cons_of_mem _ h2, h3⟩
  | _, _, _, i + 1, .dk _ s, e => by
    obtain ⟨l, h1, h2, h3⟩ := Slots.getD (i := i) s (by simpa using e)
    exact ⟨l, by simpa using h1, List.mem_cons_of_mem _ h2, h3⟩
  | _, _, _, i + 1, .tw _ s, e => by
    obtain ⟨l, h1, h2, h3⟩ := Slots.getD (i := i) s (by simpa using e)
    exact ⟨l, by simpa using h1, List.mem_cons_of_mem _ h2, h3⟩
  | _, _, _, 0, .ot _ _ _, e => by simp at e
  | _, _, _, i + 1, .ot _ q s, e => by
    obtain ⟨l, h1, h2, h3⟩ := Slots.getD (i := i) s (by simpa using e)
    exact ⟨l, by simpa using h1, by rw [q]; exact List.mem_append_right _ h2, h3⟩
/-- a slot forgotten -/
theorem Slots.drop : ∀ {σ : List (Option V)} {ρ : List SD} {L : List Addr} (i : Nat), Slots pr wd K O H σ ρ L → ∃ L', Slots pr wd K O H σ (ρ.set i .un) L' ∧ L'.Sublist L
  | _, _, _, _, .nil => ⟨[], .nil, List.Sublist.refl _⟩
  | _, _, _, 0, .un s => ⟨_, .un s, List.Sublist.refl _⟩
  | _, _, _, 0, .val _ s => ⟨_, .un s, List.Sublist.refl _⟩
  | _, _, _, 0, .own _ _ s => ⟨_, .un s, List.sublist_cons_self _ _⟩
  | _, _, _, i + 1, .un s => by
    obtain ⟨L', h1, h2⟩ := Slots.drop i s
    exact ⟨L', .un h1, h2⟩
  | _, _, _, i + 1, .val h s => by
    obtain ⟨L', h1, h2⟩ := Slots.drop i s
    exact ⟨L', .val h h1, h2⟩
  | _, _, _, i + 1, .own h r s => by
    obtain ⟨L', h1, h2⟩ := Slots.drop i s
    exact ⟨_ :: L', .own h r h1, h2.cons_cons _⟩
  | _, _, _, 0, .dic _ s => ⟨_, .un s, List.sublist_cons_self _ _⟩
  | _, _, _, 0, .dk _ s => ⟨_, .un s, List.sublist_cons_self _ _⟩
  | _, _, _, 0, .tw _ s => ⟨_, .un s, List.sublist_cons_self _ _⟩
  | _, _, _, i + 1, .dic h s => by
    obtain ⟨L', h1, h2⟩ := Slots.drop i s
    exact ⟨_ :: L', .dic h h1, h2.cons_cons _⟩
  | _, _, _, i + 1, .dk h s => by
    obtain ⟨L', h1, h2⟩ := Slots.drop i s
    exact ⟨_ :: L', .dk h h1, h2.cons_cons _⟩
  | _, _, _, i + 1, .tw h s => by
    obtain ⟨L', h1, h2⟩ := Slots.drop i s
    exact ⟨_ :: L', .tw h h1, h2.cons_cons _⟩
  | _, _, _, 0, .ot _ q s => ⟨_, .un s, by rw [q]; exact List.sublist_append_right _ _⟩
  | _, _, _, i + 1, .ot h q s => by
    obtain ⟨L', h1, h2⟩ := Slots.drop i s
    exact ⟨_, .ot h rfl h1, by rw [q]; exact List.Sublist.append_left h2 _⟩
theorem Slots.set {v : V} {d : D} (hv : Rp K (hid O H) v d) : ∀ {σ : List (Option V)} {ρ : List SD} {L : List Addr} (i : Nat), Slots pr wd K O H σ ρ L → ∃ L', Slots pr wd K O H (σ.set i (some v)) (ρ.set i (.val d)) L' ∧ L'.Sublist L
  | _, _, _, _, .nil => ⟨[], .nil, List.Sublist.refl _⟩
  | _, _, _, 0, .un s => ⟨_, .val hv s, List.Sublist.refl _⟩
  | _, _, _, 0, .val _ s => ⟨_, .val hv s, List.Sublist.refl _⟩
  | _, _, _, 0, .own _ _ s => ⟨_, .val hv s, List.sublist_cons_self _ _⟩
  | _, _, _, i + 1, .un s => by
    obtain ⟨L', h1, h2⟩ := Slots.set hv i s
    exact ⟨L', .un h1, h2⟩
  | _, _, _, i + 1, .val h s => by
    obtain ⟨L', h1, h2⟩ := Slots.set hv i s
    exact ⟨L', .val h h1, h2⟩
  | _, _, _, i + 1, .own h r s => by
    obtain ⟨L', h1, h2⟩ := Slots.set hv i s
    exact ⟨_ :: L', .own h r h1, h2.cons_cons _⟩
  | _, _, _, 0, .dic _ s => ⟨_, .val hv s, List.sublist_cons_self _ _⟩
  | _, _, _, 0, .dk _ s => ⟨_, .val hv s, List.sublist_cons_self _ _⟩
  | _, _, _, 0, .tw _ s => ⟨_, .val hv s, List.sublist_cons_self _ _⟩
  | _, _, _, i + 1, .dic h s => by
    obtain ⟨L', h1, h2⟩ := Slots.set hv i s
    exact ⟨_ :: L', .dic h h1, h2.cons_cons _⟩
  | _, _, _, i + 1, .dk h s => by
    obtain ⟨L', h1, h2⟩ := Slots.set hv i s
    exact ⟨_ :: L', .dk h h1, h2.cons_cons _⟩
  | _, _, _, i + 1, .tw h s => by
    obtain ⟨L', h1, h2⟩ := Slots.set hv i s
    exact ⟨_ :: L', .tw h h1, h2.cons_cons _⟩
  | _, _, _, 0, .ot _ q s => ⟨_, .val hv s, by rw [q]; exact List.sublist_append_right _ _⟩
  | _, _, _, i + 1, .ot h q s => by
    obtain ⟨L', h1, h2⟩ := Slots.set hv i s
    exact ⟨_, .ot h rfl h1, by rw [q]; exact List.Sublist.append_left h2 _⟩
theorem Slots.setO {l : Addr} {xs : List V} {ds : List D} (hl : H l = some (.lst xs)) (hx : RpAll K (hid O H) xs ds) (hn : l ∉ L) : ∀ {σ : List (Option V)} {ρ : List SD} {L : List Addr} (i : Nat), i < ρ.length → Slots pr wd K O H σ ρ L →
    ∃ L1 L2 L3, Slots pr wd K O H (σ.set i (some (.ref l))) (ρ.set i (.own ds)) (L1 ++ l :: L2) ∧ L = L1 ++ L3 ∧ L2.Sublist L3
  | _, _, _, _, h, .nil => by simp at h
  | _, _, L, 0, _, .un s => ⟨[], L, L, .own hl hx s, rfl, List.Sublist.refl _⟩
  | _, _, L, 0, _, .val _ s => ⟨[], L, L, .own hl hx s, rfl, List.Sublist.refl _⟩
  | _, _, _ :: L, 0, _, .own _ _ s => ⟨[], L, _, .own hl hx s, rfl, List.sublist_cons_self _ _⟩
  | _, _, _, i + 1, h, .un s => by
    obtain ⟨L1, L2, L3, h1, h2⟩ := Slots.setO hl hx hn i (by simpa using h) s
    exact ⟨L1, L2, L3, .un h1, h2⟩
  | _, _, _, i + 1, h, .val q s => by
    obtain ⟨L1, L2, L3, h1, h2⟩ := Slots.setO hl hx hn i (by simpa using h) s
    exact ⟨L1, L2, L3, .val q h1, h2⟩
  | _, _, _, i + 1, h, .own q r s => by
    obtain ⟨L1, L2, L3, h1, h2, h3⟩ := Slots.setO hl hx hn i (by simpa using h) s
    exact ⟨_ :: L1, L2, L3, .own q r h1, by rw [h2]; rfl, h3⟩
  | _, _, _ :: L, 0, _, .dic _ s => ⟨[], L, _, .own hl hx s, rfl, List.sublist_cons_self _ _⟩
  | _, _, _ :: L, 0, _, .dk _ s => ⟨[], L, _, .own hl hx s, rfl, List.sublist_cons_self _ _⟩
  | _, _, _ :: L, 0, _, .tw _ s => ⟨[], L, _, .own hl hx s, rfl, List.sublist_cons_self _ _⟩
  | _, _, _, i + 1, h, .dic q s => by
    obtain ⟨L1, L2, L3, h1, h2, h3⟩ := Slots.setO hl hx hn i (by simpa using h) s
    exact ⟨_ :: L1, L2, L3, .dic q h1, by rw [h2]; rfl, h3⟩
  | _, _, _, i + 1, h, .dk q s => by
    obtain ⟨L1, L2, L3, h1, h2, h3⟩ := Slots.setO hl hx hn i (by simpa using h) s
    exact ⟨_ :: L1, L2, L3, .dk q h1, by rw [h2]; rfl, h3⟩
  | _, _, _, i + 1, h, .tw q s => by
    obtain ⟨L1, L2, L3, h1, h2, h3⟩ := Slots.setO hl hx hn i (by simpa using h) s
    exact ⟨_ :: L1, L2, L3, .tw q h1, by rw [h2]; rfl, h3⟩
  | _, _, _, 0, _, .ot _ q s => ⟨[], _, _, .own hl hx s, rfl, by rw [q]; exact List.sublist_append_right _ _⟩
  | _, _, _, i + 1, h, .ot p q s => by
    obtain ⟨L1, L2, L3, h1, h2, h3⟩ := Slots.setO hl hx hn i (by simpa using h) s
    exact ⟨_, L2, L3, .ot p (List.append_assoc _ _ _) h1, by rw [q, h2, List.append_assoc], h3⟩
theorem Slots.setN {l : Addr} {kvs : List (D × D)} (hx : NDict pr wd K O H l kvs) (hn : l ∉ L) : ∀ {σ : List (Option V)} {ρ : List SD} {L : List Addr} (i : Nat), i < ρ.length → Slots pr wd K O H σ ρ L →
    ∃ L1 L2 L3, Slots pr wd K O H (σ.set i (some (.ref l))) (ρ.set i (.dic kvs)) (L1 ++ l :: L2) ∧ L = L1 ++ L3 ∧ L2.Sublist L3
  | _, _, _, _, h, .nil => by simp at h
  | _, _, L, 0, _, .un s => ⟨[], L, L, .dic hx s, rfl, List.Sublist.refl _⟩
  | _, _, L, 0, _, .val _ s => ⟨[], L, L, .dic hx s, rfl, List.Sublist.refl _⟩
  | _, _, _ :: L, 0, _, .own _ _ s => ⟨[], L, _, .dic hx s, rfl, List.sublist_cons_self _ _⟩
  | _, _, _ :: L, 0, _, .dic _ s => ⟨[], L, _, .dic hx s, rfl, List.sublist_cons_self _ _⟩
  | _, _, _ :: L, 0, _, .dk _ s => ⟨[], L, _, .dic hx s, rfl, List.sublist_cons_self _ _⟩
  | _, _, _ :: L, 0, _, .tw _ s => ⟨[], L, _, .dic hx s, rfl, List.sublist_cons_self _ _⟩
  | _, _, _, i + 1, h, .un s => by
    obtain ⟨L1, L2, L3, h1, h2⟩ := Slots.setN hx hn i (by simpa using h) s
    exact ⟨L1, L2, L3, .un h1, h2⟩
  | _, _, _, i + 1, h, .val q s => by
    obtain ⟨L1, L2, L3, h1, h2⟩ := Slots.setN hx hn i (by simpa using h) s
    exact ⟨L1, L2, L3, .val q h1, h2⟩
  | _, _, _, i + 1, h, .own q r s => by
    obtain ⟨L1, L2, L3, h1, h2, h3⟩ := Slots.setN hx hn i (by simpa using h) s
    exact ⟨_ :: L1, L2, L3, .own q r h1, by rw [h2]; rfl, h3⟩
  | _, _, _, i + 1, h, .dic q s => by
    obtain ⟨L1, L2, L3, h1, h2, h3⟩ := Slots.setN hx hn i (by simpa using h) s
    exact ⟨_ :: L1, L2, L3, .dic q h1, by rw [h2]; rfl, h3⟩
  | _, _, _, i + 1, h, .dk q s => by
    obtain ⟨L1, L2, L3, h1, h2, h3⟩ := Slots.setN hx hn i (by simpa using h) s
    exact ⟨_ :: L1, L2, L3, .dk q h1, by rw [h2]; rfl, h3⟩
  | _, _, _, i + 1, h, .tw q s => by
    obtain ⟨L1, L2, L3, h1, h2, h3⟩ := Slots.setN hx hn i (by simpa using h) s
    exact ⟨_ :: L1, L2, L3, .tw q h1, by rw [h2]; rfl, h3⟩
  | _, _, _, 0, _, .ot _ q s => ⟨[], _, _, .dic hx s, rfl, by rw [q]; exact List.sublist_append_right _ _⟩
  | _, _, _, i + 1, h, .ot p q s => by
    obtain ⟨L1, L2, L3, h1, h2, h3⟩ := Slots.setN hx hn i (by simpa using h) s
    exact ⟨_, L2, L3, .ot p (List.append_assoc _ _ _) h1, by rw [q, h2, List.append_assoc], h3⟩
end

theorem Slots.lists {pr : Program} {wd : World} {K : PySem.W.Frag} {O : List Addr} {H : Hp} {σ : List (Option V)} {ρ : List SD} {L : List Addr} (s : Slots pr wd K O H σ ρ L) : ∀ l ∈ L, ∃ o, H l = some o := by
  induction s with
  | nil => intro l h; cases h
  | un _ ih => exact ih
  | val _ _ ih => exact ih
  | own h _ _ ih =>
    intro l hl
    rcases List.mem_cons.mp hl with e | e
    · subst e; exact ⟨_, h⟩
    · exact ih l e
  | dic h _ ih =>
    intro l hl
    rcases List.mem_cons.mp hl with e | e
    · subst e; obtain ⟨xs, h1, _⟩ := h; exact ⟨_, h1⟩
    · exact ih l e
  | dk h _ ih =>
    intro l hl
    rcases List.mem_cons.mp hl with e | e
    · subst e; obtain ⟨xs, h1, _⟩ := h; exact ⟨_, h1⟩
    · exact ih l e
  | tw h _ ih =>
    intro l hl
    rcases List.mem_cons.mp hl with e | e
    · subst e; obtain ⟨xs, _, _, _, h1, _⟩ := h; exact ⟨_, h1⟩
    · exact ih l e
  | ot h q _ ih =>
    intro l hl
    rw [q] at hl
    rcases List.mem_append.mp hl with e | e
    · exact OT.ex _ h l e
    · exact ih l e
section
variable {c : Ctx} {P : Hp} {L : List Addr} {n n' : Nat} {H H' : Hp} {σ : List (Option V)} {ρ : List SD}
theorem mem_B {b : Addr} : b ∈ c.B ↔ ∃ q, c.bag = some (b, q) := by
  unfold Ctx.B
  cases c.bag with
  | none => simp
  | some x =>
    obtain ⟨x1, x2⟩ := x
    simp [eq_comm]
theorem Env.inO (E : Env c P L n H σ ρ) {b : Addr} (h : b ∈ c.B) : b ∈ c.O := by
  obtain ⟨q, e⟩ := mem_B.mp h
  exact (E.bO b q e).1
theorem Env.notB (E : Env c P L n H σ ρ) {l : Addr} (h : l ∈ L) : l ∉ c.B := fun q => (E.fresh l h).2 (E.inO q)
theorem Env.BLO (E : Env c P L n H σ ρ) : ∀ a, a ∈ c.B → a ∈ L ++ c.O := fun a h => List.mem_append_right _ (E.inO h)
theorem Env.sameLO (E : Env c P L n H σ ρ) (e : Same (hid c.B H) (hid c.B H')) : Same (hid (L ++ c.O) H) (hid (L ++ c.O) H') := same_hid_more E.BLO e
theorem Env.own (E : Env c P L n H σ ρ) (e : Same (hid c.B H) (hid c.B H')) : ∀ l ∈ L, H' l = H l := fun l hl => by
  obtain ⟨xs, h⟩ := E.lst l hl
  rw [h]
  exact (hid_some.mp (e l _ (hid_some.mpr ⟨E.notB hl, h⟩))).2
/-- an expression's step -/
theorem Env.step (E : Env c P L n H σ ρ) (e : Same (hid c.B H) (hid c.B H')) (j : c.J n' H') : Env c P L n' H' σ ρ where
  nd := E.nd
  fresh := E.fresh
  slots := by
    obtain ⟨Ls, s, sub⟩ := E.slots
    exact ⟨Ls, s.move (fun l hl => E.own e l (sub.subset hl)) (E.sameLO e), sub⟩
  lst := fun l hl => by
    rw [E.own e l hl]
    exact E.lst l hl
  bag := j
  base := E.base.trans e
  pers := E.pers.trans (E.sameLO e)
  bO := E.bO
  al := fun o ho => by
    by_cases hb : o ∈ c.B
    · obtain ⟨q, hq⟩ := mem_B.mp hb
      obtain ⟨xs, h⟩ := (j o q hq).lst
      rw [h]; exact fun q => by cases q
    · cases h : H o with
      | none => exact absurd h (E.al o ho)
      | some u =>
        rw [(hid_some.mp (e o u (hid_some.mpr ⟨hb, h⟩))).2]
        exact fun q => by cases q
/-- where all stands and new things may have come -/
theorem Env.same (E : Env c P L n H σ ρ) (e : Same H H') : Same (hid c.B H) (hid c.B H') ∧ c.J n H' :=
  ⟨same_hid_of e, fun b q hb => (E.bag b q hb).move (fun o h => e b o h) fun o h => e q o h⟩
theorem Env.new (E : Env c P L n H σ ρ) {p : Addr} (h : H p = none) : c.H0 p = none ∧ p ∉ c.O ∧ p ∉ L := by
  have h1 : p ∉ c.O := fun q => E.al p q h
  refine ⟨?_, h1, fun q => ?_⟩
  · cases e : c.H0 p with
    | none => rfl
    | some u =>
      have := (hid_some.mp (E.base p u (hid_some.mpr ⟨fun q => h1 (E.inO q), e⟩))).2
      rw [h] at this; cases this
  · obtain ⟨xs, e⟩ := E.lst p q
    rw [h] at e; cases e
theorem Env.pers' (E : Env c P L n H σ ρ) : Env c (hid (L ++ c.O) H) L n H σ ρ := { E with pers := Same.refl _ }
theorem Env.persOf {P' : Hp} (E : Env c P L n H σ ρ) (h : Same P' P) : Env c P' L n H σ ρ := { E with pers := h.trans E.pers }
/-- other slots over the same or a smaller set of owned lists -/
theorem Env.reslot {L' : List Addr} {σ' : List (Option V)} {ρ' : List SD} (E : Env c P L n H σ ρ) (s : Slots c.pr c.wd c.K (L ++ c.O) H σ' ρ' L') (h : L'.Sublist L) : Env c P L n H σ' ρ' :=
  { E with slots := ⟨L', s, h⟩ }
end
end L3
/-! L3b: the judgements over data, and their rules. -/
namespace L3
open PySem L2

abbrev Ph := Nat → D → Prop
abbrev ER := List (Option V)
def WE (c : Ctx) (te : TE) (ρ : List SD) (n : Nat) (Φ : Nat → D → Prop) : Prop :=
  ∀ P L σ H Q, Env c P L n H σ ρ → (∀ v d n' H', Same (hid c.B H) (hid c.B H') → c.J n' H' → Rp c.K (hid (L ++ c.O) H') v d → Φ n' d → Q v H') → te σ H Q
def WT (c : Ctx) (tt : TT) (ρ : List SD) (n : Nat) (Φ : Nat → Bool → Prop) : Prop :=
  ∀ P L σ H Q, Env c P L n H σ ρ → (∀ b n' H', Same (hid c.B H) (hid c.B H') → c.J n' H' → Φ n' b → Q b H') → tt σ H Q
def WA (c : Ctx) (ta : TA) (ρ : List SD) (n : Nat) (Φ : Nat → List D → Prop) : Prop :=
  ∀ P L σ H Q, Env c P L n H σ ρ → (∀ vs ds n' H', Same (hid c.B H) (hid c.B H') → c.J n' H' → RpAll c.K (hid (L ++ c.O) H') vs ds → Φ n' ds → Q vs H') → ta σ H Q
/-- a part of a slice -/
def WO (c : Ctx) (to : TO) (ρ : List SD) (n : Nat) (Φ : Nat → Option Int → Prop) : Prop :=
  ∀ P L σ H Q, Env c P L n H σ ρ → (∀ o n' H', Same (hid c.B H) (hid c.B H') → c.J n' H' → Φ n' o → Q o H') → to σ H Q
/-- a new list -/
def WF (c : Ctx) (te : TE) (ρ : List SD) (n : Nat) (Φ : Nat → List D → Prop) : Prop :=
  ∀ P L σ H Q, Env c P L n H σ ρ → (∀ p xs ds n' H', Same (hid c.B H) (hid c.B H') → H p = none → H' p = some (.lst xs) → RpAll c.K (hid (p :: (L ++ c.O)) H') xs ds → c.J n' H' → Φ n' ds → Q (.ref p) H') → te σ H Q
structure Out where
  nx : Nat → List SD → Prop
  rt : Nat → D → Prop
  bk : Nat → List SD → Prop := fun _ _ => False
  ct : Nat → List SD → Prop := fun _ _ => False
structure Acc (c : Ctx) (P : Hp) (Ψ : Out) (Dn : Ends) : Prop where
  nx : ∀ L n H σ ρ, Env c P L n H σ ρ → Ψ.nx n ρ → Dn.nx σ H
  rt : ∀ v d n H, Same (hid c.B c.H0) (hid c.B H) → c.J n H → Rp c.K (hid c.O H) v d → Ψ.rt n d → Dn.rt v H
  bk : ∀ L n H σ ρ, Env c P L n H σ ρ → Ψ.bk n ρ → Dn.bk σ H
  ct : ∀ L n H σ ρ, Env c P L n H σ ρ → Ψ.ct n ρ → Dn.ct σ H
def WS (c : Ctx) (ts : TS) (ρ : List SD) (n : Nat) (Ψ : Out) : Prop :=
  ∀ P L σ H Dn, Env c P L n H σ ρ → Acc c P Ψ Dn → ts Dn σ H
def WG (c : Ctx) (R : ER → ER → Prop) (g : TG) (d : D) (ρ : List SD) (n : Nat) (Φ : List SD → Prop) : Prop :=
  ∀ P L σ H v Q, Env c P L n H σ ρ → Rp c.K (hid (L ++ c.O) H) v d → (∀ σ' ρ', Env c P L n H σ' ρ' → R σ σ' → Φ ρ' → Q σ' H) → g v σ H Q
def WGs (c : Ctx) (R : ER → ER → Prop) (g : TGs) (ds : List D) (ρ : List SD) (n : Nat) (Φ : List SD → Prop) : Prop :=
  ∀ P L σ H vs Q, Env c P L n H σ ρ → RpAll c.K (hid (L ++ c.O) H) vs ds → (∀ σ' ρ', Env c P L n H σ' ρ' → R σ σ' → Φ ρ' → Q σ' H) → g vs σ H Q
/-- a walk over these data -/
structure ItOk (c : Ctx) (J : It) (ds : List D) (P : Hp) : Prop where
  go : ∀ L n H σ ρ, Env c P L n H σ ρ → ∀ i d, ds[i]? = some d → J.go i H ∧ ∀ x H', J.yld i H x H' → Same H H' ∧ Rp c.K (hid (L ++ c.O) H') x d
  stop : ∀ L n H σ ρ, Env c P L n H σ ρ → ∀ i, ds.length ≤ i → J.stop i H
def WI (c : Ctx) (wi : TI) (ρ : List SD) (n : Nat) (Φ : Nat → List D → Prop) : Prop :=
  ∀ P L σ H R, Env c P L n H σ ρ → (∀ J ds n' H', Same (hid c.B H) (hid c.B H') → c.J n' H' → ItOk c J ds (hid (L ++ c.O) H') → Φ n' ds → R J H') → wi σ H R

section
variable {c : Ctx} {ρ : List SD} {n : Nat} {ta tb te : TE} {t u : TT} {as : TA} {Φ : Nat → D → Prop} {Ψ : Out} {ts us : TS}

/-! ### steps -/
theorem Env.up {P : Hp} {L : List Addr} {n n' : Nat} {H H' H2 : Hp} {σ : List (Option V)} {ρ : List SD} (E : Env c P L n H σ ρ) (e : Same (hid c.B H) (hid c.B H')) {v : V} {d : D} (h : Rp c.K (hid (L ++ c.O) H) v d) : Rp c.K (hid (L ++ c.O) H') v d := h.mono (E.sameLO e)
theorem Env.ups {P : Hp} {L : List Addr} {n n' : Nat} {H H' H2 : Hp} {σ : List (Option V)} {ρ : List SD} (E : Env c P L n H σ ρ) (e : Same (hid c.B H) (hid c.B H')) {v : List V} {d : List D} (h : RpAll c.K (hid (L ++ c.O) H) v d) : RpAll c.K (hid (L ++ c.O) H') v d := h.mono (E.sameLO e)

theorem Env.noO {P : Hp} {L : List Addr} {n : Nat} {H : Hp} {σ : List (Option V)} (E : Env c P L n H σ ρ) : ∀ p, H p = none → p ∉ L ++ c.O := fun p hp q => by
  have w := E.new hp
  rcases List.mem_append.mp q with q | q
  · exact w.2.2 q
  · exact w.2.1 q
/-! ### expressions -/
theorem we_var {i : Nat} {d : D} (h : ρ[i]? = some (.val d)) (k : Φ n d) : WE c (tVar i) ρ n Φ := fun P L σ H Q E q => by
  obtain ⟨Ls, sl, _⟩ := E.slots
  obtain ⟨v, h1, h2⟩ := sl.get h
  exact ⟨v, h1, q v d n H (Same.refl _) E.bag h2 k⟩
theorem we_int {i : Int} (k : Φ n (.int i)) : WE c (tC (.int i)) ρ n Φ := fun P L σ H Q E q => q _ _ n H (Same.refl _) E.bag (.int i) k
theorem we_str {x : Str} (k : Φ n (.str x)) : WE c (tC (.str x)) ρ n Φ := fun P L σ H Q E q => q _ _ n H (Same.refl _) E.bag (.str x) k
theorem we_bl {b : Bool} (k : Φ n (.bl b)) : WE c (tC (.bl b)) ρ n Φ := fun P L σ H Q E q => q _ _ n H (Same.refl _) E.bag (.bl b) k
theorem we_non (k : Φ n .non) : WE c (tC .non) ρ n Φ := fun P L σ H Q E q => q _ _ n H (Same.refl _) E.bag .non k
/-- two expressions in a row, then what is asked of their values -/
def R2D (K : PySem.W.Frag) (r : R2) (d e : D) (Φ : D → Prop) : Prop := ∀ (O : List Addr) (H : Hp) (x y : V) (Q : VK), Rp K (hid O H) x d → Rp K (hid O H) y e → (∀ p, H p = none → p ∉ O) → (∀ v f H', Same H H' → Rp K (hid O H') v f → Φ f → Q v H') → r x y H Q
theorem we_op {r : R2} (h : WE c ta ρ n fun n1 d => WE c tb ρ n1 fun n2 e => R2D c.K r d e (Φ n2)) : WE c (tOp r ta tb) ρ n Φ := fun P L σ H Q E q => by
  refine h P L σ H _ E fun x d n1 H1 s1 j1 r1 h1 => ?_
  refine h1 P L σ H1 _ (E.step s1 j1) fun y e n2 H2 s2 j2 r2 h2 => ?_
  have E2 := (E.step s1 j1).step s2 j2
  refine h2 (L ++ c.O) H2 x y Q ((E.step s1 j1).up (n' := 0) (H2 := H) s2 r1) r2 E2.noO fun v f H' s r k => ?_
  have z := E2.same s
  exact q v f n2 H' ((s1.trans s2).trans z.1) z.2 r k
theorem we_un {r : V → Hp → VK → Prop} (h : WE c ta ρ n fun n1 d => ∀ (O : List Addr) (H : Hp) (x : V) (Q : VK), Rp c.K (hid O H) x d → (∀ p, H p = none → p ∉ O) → (∀ v f H', Same H H' → Rp c.K (hid O H') v f → Φ n1 f → Q v H') → r x H Q) : WE c (tUn r ta) ρ n Φ := fun P L σ H Q E q => by
  refine h P L σ H _ E fun x d n1 H1 s1 j1 r1 h1 => ?_
  refine h1 (L ++ c.O) H1 x Q r1 (E.step s1 j1).noO fun v f H' s r k => ?_
  have z := (E.step s1 j1).same s
  exact q v f n1 H' (s1.trans z.1) z.2 r k
/-- an int operation -/
theorem r2_int {K : PySem.W.Frag} {C : Int → Int → Prop} {g : Int → Int → V} {h : Int → Int → D} (hg : ∀ (H : Hp) i j, Rp K H (g i j) (h i j)) {i j : Int} {Φ : D → Prop} (hc : C i j) (k : Φ (h i j)) : R2D K (rI C g) (.int i) (.int j) Φ := fun O H x y Q rx ry _ q => by
  cases rx
  cases ry
  exact ⟨i, j, rfl, rfl, hc, q _ _ H (Same.refl _) (hg _ i j) k⟩
theorem r2_int0 {K : PySem.W.Frag} {g : Int → Int → V} {h : Int → Int → D} (hg : ∀ (H : Hp) i j, Rp K H (g i j) (h i j)) {i j : Int} {Φ : D → Prop} (k : Φ (h i j)) : R2D K (rI0 g) (.int i) (.int j) Φ := fun O H x y Q rx ry _ q => by
  cases rx
  cases ry
  exact ⟨i, j, rfl, rfl, q _ _ H (Same.refl _) (hg _ i j) k⟩
theorem r2_eq {K : PySem.W.Frag} {d e : D} {b : Bool} {Φ : D → Prop} (hs : ∀ (H : Hp) x y, Rp K H x d → Rp K H y e → scal x y = true ∧ decide (x = y) = b) (k : Φ (.bl b)) : R2D K rEq d e Φ := fun O H x y Q rx ry _ q => by
  obtain ⟨h1, h2⟩ := hs _ x y rx ry
  exact ⟨h1, by rw [h2]; exact q _ _ H (Same.refl _) (.bl b) k⟩
theorem r2_ne {K : PySem.W.Frag} {d e : D} {b : Bool} {Φ : D → Prop} (hs : ∀ (H : Hp) x y, Rp K H x d → Rp K H y e → scal x y = true ∧ (!decide (x = y)) = b) (k : Φ (.bl b)) : R2D K rNe d e Φ := fun O H x y Q rx ry _ q => by
  obtain ⟨h1, h2⟩ := hs _ x y rx ry
  exact ⟨h1, by rw [h2]; exact q _ _ H (Same.refl _) (.bl b) k⟩
/-- a value as a test -/
theorem wt_B {Φ : Nat → Bool → Prop} (h : WE c te ρ n fun n1 d => ∃ b, d = .bl b ∧ Φ n1 b) : WT c (tB te) ρ n Φ := fun P L σ H Q E q => by
  refine h P L σ H _ E fun x d n1 H1 s1 j1 r1 ⟨b, e, k⟩ => ?_
  subst e
  cases r1
  exact ⟨b, rfl, q b n1 H1 s1 j1 k⟩
theorem wt_test {Φ : Nat → Bool → Prop} (h : WE c te ρ n fun n1 d => ∃ b, d = .bl b ∧ Φ n1 b) : WT c (tTest te) ρ n Φ := wt_B h
/-- truth -/
def tru : D → Option Bool
  | .non => some false
  | .bl b => some b
  | .int i => some (i != 0)
  | .str x => if x.length ≤ sizeLine then some ((x.length : Int) != 0) else none
  | .lst xs => some (!xs.isEmpty)
  | .tup xs => some (!xs.isEmpty)
  | _ => none
theorem tru_V {K : PySem.W.Frag} {H : Hp} {O : List Addr} {x : V} {d : D} {b : Bool} (r : Rp K (hid O H) x d) (h : tru d = some b) : TruV K x H b := by
  cases r with
  | non => exact (Option.some.inj h).symm
  | bl b => exact (Option.some.inj h).symm
  | int i => exact (Option.some.inj h).symm
  | str x =>
    by_cases hx : x.length ≤ sizeLine
    · have h' : (if x.length ≤ sizeLine then some ((x.length : Int) != 0) else none) = some b := h
      rw [if_pos hx] at h'
      exact ⟨hx, (Option.some.inj h').symm⟩
    · have h' : (if x.length ≤ sizeLine then some ((x.length : Int) != 0) else none) = some b := h
      rw [if_neg hx] at h'
      cases h'
  | lst hs ha =>
    refine .inl ⟨_, .inl (same_rd same_hid hs), ?_⟩
    rw [← Option.some.inj h]
    cases ha <;> rfl
  | tup hs ha =>
    refine .inr (.inl ⟨_, same_t same_hid hs, ?_⟩)
    rw [← Option.some.inj h]
    cases ha <;> rfl
  | obj h1 _ => cases h
  | adr a => cases h
  | ty n => cases h
  | er _ _ _ => cases h
  | dct _ _ => cases h
  | dcn _ _ _ => cases h
theorem wt_tru {Φ : Nat → Bool → Prop} (h : WE c te ρ n fun n1 d => ∃ b, tru d = some b ∧ Φ n1 b) : WT c (fun σ H Q => te σ H fun x H' => ∃ k, TruV c.K x H' k ∧ Q k H') ρ n Φ := fun P L σ H Q E q => by
  refine h P L σ H _ E fun x d n1 H1 s1 j1 r1 ⟨b, e, k⟩ => ?_
  exact ⟨b, tru_V r1 e, q b n1 H1 s1 j1 k⟩
theorem wt_and {Φ : Nat → Bool → Prop} (h : WT c t ρ n fun n1 b => if b = true then WT c u ρ n1 Φ else Φ n1 false) : WT c (tAnd t u) ρ n Φ := fun P L σ H Q E q => by
  refine h P L σ H _ E fun b n1 H1 s1 j1 k => ?_
  cases b with
  | true =>
    rw [if_pos rfl] at k
    show u σ H1 Q
    exact k P L σ H1 Q (E.step s1 j1) fun b n2 H2 s2 j2 k2 => q b n2 H2 (s1.trans s2) j2 k2
  | false =>
    rw [if_neg Bool.false_ne_true] at k
    exact q false n1 H1 s1 j1 k
theorem wt_or {Φ : Nat → Bool → Prop} (h : WT c t ρ n fun n1 b => if b = true then Φ n1 true else WT c u ρ n1 Φ) : WT c (tOr t u) ρ n Φ := fun P L σ H Q E q => by
  refine h P L σ H _ E fun b n1 H1 s1 j1 k => ?_
  cases b with
  | true =>
    rw [if_pos rfl] at k
    exact q true n1 H1 s1 j1 k
  | false =>
    rw [if_neg Bool.false_ne_true] at k
    show u σ H1 Q
    exact k P L σ H1 Q (E.step s1 j1) fun b n2 H2 s2 j2 k2 => q b n2 H2 (s1.trans s2) j2 k2
theorem wt_not {Φ : Nat → Bool → Prop} (h : WT c t ρ n fun n1 b => Φ n1 (!b)) : WT c (tNot t) ρ n Φ := fun P L σ H Q E q => h P L σ H _ E fun b n1 H1 s1 j1 k => q (!b) n1 H1 s1 j1 k
theorem wt_yes {Φ : Nat → Bool → Prop} (k : Φ n true) : WT c tYes ρ n Φ := fun P L σ H Q E q => q true n H (Same.refl _) E.bag k
theorem we_not (h : WE c ta ρ n fun n1 d => ∃ b, d = .bl b ∧ Φ n1 (.bl (!b))) : WE c (tNotV ta) ρ n Φ := fun P L σ H Q E q => by
  refine h P L σ H _ E fun x d n1 H1 s1 j1 r1 ⟨b, e, k⟩ => ?_
  subst e
  cases r1
  exact ⟨b, rfl, q _ _ n1 H1 s1 j1 (.bl _) k⟩
theorem we_and (h : WE c ta ρ n fun n1 d => ∃ b, d = .bl b ∧ if b = true then WE c tb ρ n1 Φ else Φ n1 (.bl false)) : WE c (tAndV ta tb) ρ n Φ := fun P L σ H Q E q => by
  refine h P L σ H _ E fun x d n1 H1 s1 j1 r1 ⟨b, e, k⟩ => ?_
  subst e
  cases r1
  refine ⟨b, rfl, ?_⟩
  cases b with
  | true =>
    rw [if_pos rfl] at k ⊢
    exact k P L σ H1 Q (E.step s1 j1) fun v d n2 H2 s2 j2 r2 k2 => q v d n2 H2 (s1.trans s2) j2 r2 k2
  | false =>
    rw [if_neg Bool.false_ne_true] at k ⊢
    exact q _ _ n1 H1 s1 j1 (.bl _) k
theorem we_or (h : WE c ta ρ n fun n1 d => ∃ b, d = .bl b ∧ if b = true then Φ n1 (.bl true) else WE c tb ρ n1 Φ) : WE c (tOrV ta tb) ρ n Φ := fun P L σ H Q E q => by
  refine h P L σ H _ E fun x d n1 H1 s1 j1 r1 ⟨b, e, k⟩ => ?_
  subst e
  cases r1
  refine ⟨b, rfl, ?_⟩
  cases b with
  | true =>
    rw [if_pos rfl] at k ⊢
    exact q _ _ n1 H1 s1 j1 (.bl _) k
  | false =>
    rw [if_neg Bool.false_ne_true] at k ⊢
    exact k P L σ H1 Q (E.step s1 j1) fun v d n2 H2 s2 j2 r2 k2 => q v d n2 H2 (s1.trans s2) j2 r2 k2
theorem we_if (h : WT c t ρ n fun n1 b => if b = true then WE c ta ρ n1 Φ else WE c tb ρ n1 Φ) : WE c (tIf t ta tb) ρ n Φ := fun P L σ H Q E q => by
  refine h P L σ H _ E fun b n1 H1 s1 j1 k => ?_
  cases b with
  | true =>
    rw [if_pos rfl] at k ⊢
    exact k P L σ H1 Q (E.step s1 j1) fun v d n2 H2 s2 j2 r2 k2 => q v d n2 H2 (s1.trans s2) j2 r2 k2
  | false =>
    rw [if_neg Bool.false_ne_true] at k ⊢
    exact k P L σ H1 Q (E.step s1 j1) fun v d n2 H2 s2 j2 r2 k2 => q v d n2 H2 (s1.trans s2) j2 r2 k2
/-- is None -/
def isNon : D → Bool
  | .non => true
  | _ => false
theorem isNon_V {K : PySem.W.Frag} {H : Hp} {x : V} {d : D} (r : Rp K H x d) : decide (x = .non) = isNon d := by
  cases r <;> first | rfl | exact decide_eq_false (fun e => by cases e)
theorem we_isN (h : WE c ta ρ n fun n1 d => Φ n1 (.bl (isNon d))) : WE c (tIsN ta) ρ n Φ := fun P L σ H Q E q => by
  refine h P L σ H _ E fun x d n1 H1 s1 j1 r1 k => ?_
  rw [isNon_V r1]
  exact q _ _ n1 H1 s1 j1 (.bl _) k
theorem we_notN (h : WE c ta ρ n fun n1 d => Φ n1 (.bl (!isNon d))) : WE c (tNotN ta) ρ n Φ := fun P L σ H Q E q => by
  refine h P L σ H _ E fun x d n1 H1 s1 j1 r1 k => ?_
  rw [isNon_V r1]
  exact q _ _ n1 H1 s1 j1 (.bl _) k

/-! ### arguments, displays -/
theorem wa_nil {Φ : Nat → List D → Prop} (k : Φ n []) : WA c tNil ρ n Φ := fun P L σ H Q E q => q [] [] n H (Same.refl _) E.bag .nil k
theorem wa_cons {Φ : Nat → List D → Prop} (h : WE c ta ρ n fun n1 d => WA c as ρ n1 fun n2 ds => Φ n2 (d :: ds)) : WA c (tCons ta as) ρ n Φ := fun P L σ H Q E q => by
  refine h P L σ H _ E fun x d n1 H1 s1 j1 r1 h1 => ?_
  have E1 := E.step s1 j1
  refine h1 P L σ H1 _ E1 fun vs ds n2 H2 s2 j2 r2 k => ?_
  exact q _ _ n2 H2 (s1.trans s2) j2 (.cons (E1.up (n' := 0) (H2 := H) s2 r1) r2) k
theorem Env.newT {P : Hp} {L : List Addr} {n : Nat} {H : Hp} {σ : List (Option V)} {p : Addr} {o : HO} (E : Env c P L n H σ ρ) (hp : H p = none) : Same (hid c.B H) (hid c.B (upd H p o)) ∧ c.J n (upd H p o) ∧ p ∉ L ++ c.O := by
  have z := E.same (same_upd_new (o := o) hp)
  have w := E.new hp
  exact ⟨z.1, z.2, fun q => by rcases List.mem_append.mp q with q | q; exact w.2.2 q; exact w.2.1 q⟩
theorem rp_upd {K : PySem.W.Frag} {O : List Addr} {H : Hp} {p : Addr} {o : HO} (hp : H p = none) : Same (hid O H) (hid O (upd H p o)) := same_hid_of (same_upd_new hp)
theorem hid_at {O : List Addr} {H : Hp} {p : Addr} {o : HO} (hp : p ∉ O) : hid O (upd H p o) p = some o := by rw [hid_out hp, upd_same]
theorem we_tup (h : WA c as ρ n fun n1 ds => ds.length ≤ sizeLine ∧ Φ n1 (.tup ds)) : WE c (tTup as) ρ n Φ := fun P L σ H Q E q => by
  refine h P L σ H _ E fun vs ds n1 H1 s1 j1 r1 ⟨hz, k⟩ => ?_
  refine ⟨by rw [r1.length]; exact hz, fun p hp => ?_⟩
  have z := (E.step s1 j1).newT (o := .tup vs) hp
  exact q _ _ n1 _ (s1.trans z.1) z.2.1 (.tup (.inl (.inl (hid_at z.2.2))) (r1.mono (rp_upd (K := c.K) hp))) k
theorem wf_lst {Φ : Nat → List D → Prop} (h : WA c as ρ n fun n1 ds => ds.length ≤ sizeLine ∧ Φ n1 ds) : WF c (tLst as) ρ n Φ := fun P L σ H Q E q => by
  refine h P L σ H _ E fun vs ds n1 H1 s1 j1 r1 ⟨hz, k⟩ => ?_
  refine ⟨by rw [r1.length]; exact hz, fun p hp => ?_⟩
  have E1 := E.step s1 j1
  refine q p vs ds n1 _ (s1.trans (E1.newT hp).1) ?_ upd_same (by rw [hid_new_in hp]; exact r1) (E1.newT hp).2.1 k
  cases e : H p with
  | none => rfl
  | some o =>
    by_cases hb : p ∈ c.B
    · exact absurd hp (E1.al p (E.inO hb))
    · rw [(hid_some.mp (s1 p o (hid_some.mpr ⟨hb, e⟩))).2] at hp
      cases hp
/-- a new list as a value -/
theorem wf_we (h : WF c te ρ n fun n1 ds => Φ n1 (.lst ds)) : WE c te ρ n Φ := fun P L σ H Q E q => by
  refine h P L σ H _ E fun p xs ds n1 H1 s1 hp h1 r1 j1 k => ?_
  have w := E.new hp
  have nin : p ∉ L ++ c.O := fun q => by rcases List.mem_append.mp q with q | q; exact w.2.2 q; exact w.2.1 q
  have sub : Same (hid (p :: (L ++ c.O)) H1) (hid (L ++ c.O) H1) := same_hid_sub fun a ha => List.mem_cons_of_mem _ ha
  exact q _ _ n1 H1 s1 j1 (.lst (.inl (by rw [hid_out nin]; exact h1)) (r1.mono sub)) k
theorem we_lst (h : WA c as ρ n fun n1 ds => ds.length ≤ sizeLine ∧ Φ n1 (.lst ds)) : WE c (tLst as) ρ n Φ := wf_we (wf_lst h)

/-! ### calls -/
/-- what a call of values asks, over data -/
def RCD (K : PySem.W.Frag) (r : List V → Hp → VK → Prop) (ds : List D) (Φ : D → Prop) : Prop := ∀ (O : List Addr) (H : Hp) (xs : List V) (Q : VK), RpAll K (hid O H) xs ds → (∀ p, H p = none → p ∉ O) → (∀ v f H', Same H H' → Rp K (hid O H') v f → Φ f → Q v H') → r xs H Q
theorem we_cb {r : List V → Hp → VK → Prop} (h : WA c as ρ n fun n1 ds => RCD c.K r ds (Φ n1)) : WE c (tCB r as) ρ n Φ := fun P L σ H Q E q => by
  refine h P L σ H _ E fun vs ds n1 H1 s1 j1 r1 k => ?_
  have E1 := E.step s1 j1
  refine k (L ++ c.O) H1 vs Q r1 E1.noO fun v f H' s r k => ?_
  have z := E1.same s
  exact q v f n1 H' (s1.trans z.1) z.2 r k
/-- what a def promises, over data: S of the bag, the turns, the arguments, what is wanted -/
abbrev Spec := Option (Addr × Addr) → Nat → List D → (Nat → D → Prop) → Prop
def spD (K : PySem.W.Frag) (S : Spec) : Sp := fun vs H Q _ => ∃ (O : List Addr) (bag : Option (Addr × Addr)) (n : Nat) (ds : List D) (Φ : Nat → D → Prop),
  (∀ b q, bag = some (b, q) → BagOk b q n H ∧ b ∈ O ∧ q ∈ O ∧ q ≠ b) ∧ (∀ o ∈ O, H o ≠ none) ∧ RpAll K (hid O H) vs ds ∧ S bag n ds Φ ∧
  ∀ v d n' H', Same (hid (bag.map (·.1)).toList H) (hid (bag.map (·.1)).toList H') → (∀ b q, bag = some (b, q) → BagOk b q n' H') → Rp K (hid O H') v d → Φ n' d → Q v H'
theorem Env.alLO {P : Hp} {L : List Addr} {n : Nat} {H : Hp} {σ : List (Option V)} (E : Env c P L n H σ ρ) : ∀ o ∈ L ++ c.O, H o ≠ none := fun o ho => by
  rcases List.mem_append.mp ho with q | q
  · obtain ⟨xs, h⟩ := E.lst o q
    rw [h]; exact fun q => by cases q
  · exact E.al o q
/-- the defaults' data -/
theorem we_call {S : Spec} {dvs : List V} {dds : List D} {XE : XK} (hd : ∀ H, RpAll c.K H dvs dds) (h : WA c as ρ n fun n1 ds => S c.bag n1 (ds ++ dds) Φ) : WE c (tCall (spD c.K S) dvs XE as) ρ n Φ := fun P L σ H Q E q => by
  refine h P L σ H _ E fun vs ds n1 H1 s1 j1 r1 k => ?_
  have E1 := E.step s1 j1
  refine ⟨L ++ c.O, c.bag, n1, ds ++ dds, Φ, fun b q hb => ⟨j1 b q hb, List.mem_append_right _ (E.bO b q hb).1, List.mem_append_right _ (E.bO b q hb).2.1, (E.bO b q hb).2.2⟩, E1.alLO, r1.append (hd _), k, fun v d n2 H2 s2 j2 r2 k2 => ?_⟩
  exact q v d n2 H2 (s1.trans s2) j2 r2 k2
theorem we_call0 {S : Spec} {XE : XK} (h : WA c as ρ n fun n1 ds => S c.bag n1 ds Φ) : WE c (tCall (spD c.K S) [] XE as) ρ n Φ := we_call (dds := []) (fun _ => .nil) fun P L σ H Q E q => h P L σ H Q E fun vs ds n1 H1 s1 j1 r1 k => q vs ds n1 H1 s1 j1 r1 (by show S c.bag n1 (ds ++ []) Φ; rw [List.append_nil]; exact k)

/-! ### statements -/
theorem ws_seq (h : WS c ts ρ n { Ψ with nx := fun n1 ρ1 => WS c us ρ1 n1 Ψ }) : WS c (tSeq ts us) ρ n Ψ := fun P L σ H Dn E A =>
  h P L σ H _ E { nx := fun L' n1 H1 σ1 ρ1 E1 k => k P L' σ1 H1 Dn E1 A, rt := A.rt, bk := A.bk, ct := A.ct }
theorem ws_next (k : Ψ.nx n ρ) : WS c tNext ρ n Ψ := fun P L σ H Dn E A => A.nx L n H σ ρ E k
theorem ws_brk (k : Ψ.bk n ρ) : WS c tBreak ρ n Ψ := fun P L σ H Dn E A => A.bk L n H σ ρ E k
theorem ws_cont (k : Ψ.ct n ρ) : WS c tCont ρ n Ψ := fun P L σ H Dn E A => A.ct L n H σ ρ E k
theorem Env.set {P : Hp} {L : List Addr} {n : Nat} {H : Hp} {σ : List (Option V)} (E : Env c P L n H σ ρ) {v : V} {d : D} (i : Nat) (h : Rp c.K (hid (L ++ c.O) H) v d) : Env c P L n H (σ.set i (some v)) (ρ.set i (.val d)) := by
  obtain ⟨Ls, sl, sb⟩ := E.slots
  obtain ⟨L', s, sub⟩ := sl.set h i
  exact E.reslot s (sub.trans sb)
theorem ws_set {i : Nat} (h : WE c te ρ n fun n1 d => Ψ.nx n1 (ρ.set i (.val d))) : WS c (tAsg te (gName i)) ρ n Ψ := fun P L σ H Dn E A => by
  refine h P L σ H _ E fun v d n1 H1 s1 j1 r1 k => ?_
  exact A.nx L n1 H1 _ _ ((E.step s1 j1).set i r1) k
theorem ws_asg {g : TG} (h : WE c te ρ n fun n1 d => WG c (fun _ _ => True) g d ρ n1 fun ρ1 => Ψ.nx n1 ρ1) : WS c (tAsg te g) ρ n Ψ := fun P L σ H Dn E A => by
  refine h P L σ H _ E fun v d n1 H1 s1 j1 r1 k => ?_
  exact k P L σ H1 v _ (E.step s1 j1) r1 fun σ' ρ' E' _ k => A.nx L n1 H1 σ' ρ' E' k
theorem ins_sub {α : Type} {p : α} : ∀ {L1 L2 L : List α}, (L1 ++ L2).Sublist L → ∃ Lp : List α, (L1 ++ p :: L2).Sublist Lp ∧ Lp.Perm (p :: L)
  | [], L2, L, h => ⟨p :: L, h.cons_cons p, List.Perm.refl _⟩
  | a :: L1, L2, L, h => by
    generalize e : a :: L1 ++ L2 = M at h
    induction h with
    | slnil => cases e
    | @cons l1 l2 b s ih =>
      obtain ⟨Lp, h1, h2⟩ := ih e
      exact ⟨b :: Lp, h1.cons b, (h2.cons b).trans (List.Perm.swap p b l2)⟩
    | @cons_cons l1 l2 b s ih =>
      have e' : a = b ∧ L1 ++ L2 = l1 := by simpa using e
      obtain ⟨e1, e2⟩ := e'
      subst e1; subst e2
      obtain ⟨Lp, h1, h2⟩ := ins_sub s
      exact ⟨a :: Lp, h1.cons_cons a, (h2.cons a).trans (List.Perm.swap p a l2)⟩
/-- a new list that is to be changed -/
theorem ws_own {i : Nat} (hi : i < ρ.length) (h : WF c te ρ n fun n1 ds => Ψ.nx n1 (ρ.set i (.own ds))) : WS c (tAsg te (gName i)) ρ n Ψ := fun P L σ H Dn E A => by
  refine h P L σ H _ E fun p xs ds n1 H1 s1 hp h1 r1 j1 k => ?_
  have w := E.new hp
  have nin : p ∉ L ++ c.O := E.noO p hp
  have E1 := E.step s1 j1
  have hs : Same (hid (L ++ c.O) H) (hid (p :: (L ++ c.O)) H1) := fun a o q => by
    obtain ⟨q1, q2⟩ := hid_some.mp q
    have q3 := (hid_some.mp (E.sameLO s1 a o q)).2
    refine hid_some.mpr ⟨fun z => ?_, q3⟩
    rcases List.mem_cons.mp z with z | z
    · subst z; rw [hp] at q2; cases q2
    · exact q1 z
  obtain ⟨Ls, sl0, sb⟩ := E.slots
  have sl : Slots c.pr c.wd c.K (p :: (L ++ c.O)) H1 σ ρ Ls := sl0.move (fun l hl => E.own s1 l (sb.subset hl)) hs
  obtain ⟨L1, L2, L3, sl2, eL, sub⟩ := Slots.setO h1 r1 (fun q => w.2.2 (sb.subset q)) i hi sl
  have e0 : p :: (L ++ c.O) = (p :: L) ++ c.O := rfl
  -- the slots' lists within p :: L: by a permutation's place
  have mv : ∃ Lp : List Addr, (L1 ++ p :: L2).Sublist Lp ∧ Lp.Perm (p :: L) := by
    rw [eL] at sb
    have h5 : (L1 ++ L2).Sublist L := (List.Sublist.append_left sub L1).trans sb
    exact ins_sub h5
  obtain ⟨Lp, sLp, pLp⟩ := mv
  have mem : ∀ a, a ∈ Lp ++ c.O ↔ a ∈ p :: (L ++ c.O) := fun a => by
    rw [e0, List.mem_append, List.mem_append, pLp.mem_iff]
  refine A.nx Lp n1 H1 _ _ ?_ k
  exact { nd := pLp.nodup_iff.mpr (List.nodup_cons.mpr ⟨w.2.2, E.nd⟩),
          fresh := fun l hl => by
            rcases List.mem_cons.mp (pLp.mem_iff.mp hl) with q | q
            · subst q; exact ⟨w.1, w.2.1⟩
            · exact E.fresh l q,
          slots := ⟨_, sl2.move (fun _ _ => rfl) (same_hid_sub fun a ha => (mem a).mp ha), sLp⟩,
          lst := fun l hl => by
            rcases List.mem_cons.mp (pLp.mem_iff.mp hl) with q | q
            · subst q; exact ⟨_, h1⟩
            · exact E1.lst l q,
          bag := j1,
          base := E1.base,
          pers := (E.pers.trans hs).trans (same_hid_sub fun a ha => (mem a).mp ha),
          bO := E.bO, al := E1.al }
theorem Slots.freeze {pr : Program} {wd : World} {K : PySem.W.Frag} {O : List Addr} {H : Hp} {ds : List D} : ∀ {σ : List (Option V)} {ρ : List SD} {L : List Addr} {i : Nat}, Slots pr wd K O H σ ρ L → ρ[i]? = some (.own ds) → ∃ L1 l L2 xs, L = L1 ++ l :: L2 ∧ H l = some (.lst xs) ∧ RpAll K (hid O H) xs ds ∧
    ∀ O' , Same (hid O H) (hid O' H) → l ∉ O' → Slots pr wd K O' H σ (ρ.set i (.val (.lst ds))) (L1 ++ L2)
  | _, _, _, _, .nil, e => by simp at e
  | _, _, _, 0, .un _, e => by simp at e
  | _, _, _, i + 1, .un s, e => by
    obtain ⟨L1, l, L2, xs, h1, h2, h3, h4⟩ := Slots.freeze (i := i) s (by simpa using e)
    exact ⟨L1, l, L2, xs, h1, h2, h3, fun O' a b => .un (h4 O' a b)⟩
  | _, _, _, 0, .val _ _, e => by simp at e
  | _, _, _, i + 1, .val r s, e => by
    obtain ⟨L1, l, L2, xs, h1, h2, h3, h4⟩ := Slots.freeze (i := i) s (by simpa using e)
    exact ⟨L1, l, L2, xs, h1, h2, h3, fun O' a b => .val (r.mono a) (h4 O' a b)⟩
  | _, _, _, 0, .own h r s, e => by
    simp at e
    subst e
    exact ⟨[], _, _, _, rfl, h, r, fun O' a b => .val (.lst (.inl (by rw [hid_out b]; exact h)) (r.mono a)) (s.move (fun _ _ => rfl) a)⟩
  | _, _, _, i + 1, .own h r s, e => by
    obtain ⟨L1, l, L2, xs, h1, h2, h3, h4⟩ := Slots.freeze (i := i) s (by simpa using e)
    exact ⟨_ :: L1, l, L2, xs, by rw [h1]; rfl, h2, h3, fun O' a b => .own h (r.mono a) (h4 O' a b)⟩
  | _, _, _, 0, .dic _ _, e => by simp at e
  | _, _, _, 0, .dk _ _, e => by simp at e
  | _, _, _, 0, .tw _ _, e => by simp at e
  | _, _, _, i + 1, .dic h s, e => by
    obtain ⟨L1, l, L2, xs, h1, h2, h3, h4⟩ := Slots.freeze (i := i) s (by simpa using e)
    exact ⟨_ :: L1, l, L2, xs, by rw [h1]; rfl, h2, h3, fun O' a b => .dic (h.move rfl a) (h4 O' a b)⟩
  | _, _, _, i + 1, .dk h s, e => by
    obtain ⟨L1, l, L2, xs, h1, h2, h3, h4⟩ := Slots.freeze (i := i) s (by simpa using e)
    exact ⟨_ :: L1, l, L2, xs, by rw [h1]; rfl, h2, h3, fun O' a b => .dk (h.move rfl a) (h4 O' a b)⟩
  | _, _, _, i + 1, .tw h s, e => by
    obtain ⟨L1, l, L2, xs, h1, h2, h3, h4⟩ := Slots.freeze (i := i) s (by simpa using e)
    exact ⟨_ :: L1, l, L2, xs, by rw [h1]; rfl, h2, h3, fun O' a b => .tw (h.move rfl a) (h4 O' a b)⟩
  | _, _, _, 0, .ot _ _ _, e => by simp at e
  | _, _, _, i + 1, .ot h q s, e => by
    obtain ⟨L1, l, L2, xs, h1, h2, h3, h4⟩ := Slots.freeze (i := i) s (by simpa using e)
    exact ⟨_, l, L2, xs, by rw [q, h1, List.append_assoc], h2, h3, fun O' a b => .ot (OT.mv _ h (fun _ _ => rfl) fun _ _ r => r.mono a) (List.append_assoc _ _ _) (h4 O' a b)⟩
theorem Env.freeze {P : Hp} {L : List Addr} {n : Nat} {H : Hp} {σ : List (Option V)} {i : Nat} {ds : List D} (E : Env c P L n H σ ρ) (h : ρ[i]? = some (.own ds)) : ∃ L', Env c P L' n H σ (ρ.set i (.val (.lst ds))) ∧ L'.Sublist L := by
  obtain ⟨Ls, sl, sb⟩ := E.slots
  obtain ⟨L1, l, L2, xs, h1, h2, h3, h4⟩ := sl.freeze h
  have lL : l ∈ L := sb.subset (by rw [h1]; simp)
  have sub : (L.erase l).Sublist L := List.erase_sublist
  have nl : l ∉ L.erase l := E.nd.not_mem_erase
  have sb2 : (L1 ++ L2).Sublist (L.erase l) := by
    have nd := sb.nodup E.nd
    rw [h1] at nd
    have n1 : l ∉ L1 := fun q => by
      have := (List.nodup_append.mp nd).2.2 l q l List.mem_cons_self
      exact this rfl
    have q : (Ls.erase l).Sublist (L.erase l) := sb.erase l
    rw [h1, List.erase_append_right _ n1, List.erase_cons_head] at q
    exact q
  have nO : l ∉ (L.erase l) ++ c.O := fun q => by
    rcases List.mem_append.mp q with q | q
    · exact nl q
    · exact (E.fresh l lL).2 q
  have se : Same (hid (L ++ c.O) H) (hid ((L.erase l) ++ c.O) H) := same_hid_sub fun a ha => by
    rcases List.mem_append.mp ha with q | q
    · exact List.mem_append_left _ (sub.subset q)
    · exact List.mem_append_right _ q
  exact ⟨L.erase l, { nd := sub.nodup E.nd, fresh := fun l hl => E.fresh l (sub.subset hl), slots := ⟨_, h4 _ se nO, sb2⟩, lst := fun l hl => E.lst l (sub.subset hl), base := E.base, pers := E.pers.trans se, bO := E.bO, al := E.al, bag := E.bag }, sub⟩
/-- an own list is handed on, no more changed -/
theorem ws_freeze (i : Nat) {ds : List D} (h : ρ[i]? = some (.own ds)) (k : WS c ts (ρ.set i (.val (.lst ds))) n Ψ) : WS c ts ρ n Ψ := fun P L σ H Dn E A => by
  obtain ⟨L', E', _⟩ := E.freeze h
  exact k P L' σ H Dn E' A
/-- an own list looked at; a scalar comes out -/
def scalar : D → Bool
  | .non => true
  | .bl _ => true
  | .int _ => true
  | .str _ => true
  | _ => false
theorem Rp.scal {K : PySem.W.Frag} {H H' : Hp} {v : V} {d : D} (r : Rp K H v d) (h : scalar d = true) : Rp K H' v d := by
  cases r with
  | non => exact .non
  | bl b => exact .bl b
  | int i => exact .int i
  | str x => exact .str x
  | _ => cases h
theorem wt_look (i : Nat) {Φ : Nat → Bool → Prop} {ds : List D} (h : ρ[i]? = some (.own ds)) (k : WT c t (ρ.set i (.val (.lst ds))) n Φ) : WT c t ρ n Φ := fun P L σ H Q E q => by
  obtain ⟨L', E', sub⟩ := E.freeze h
  exact k P L' σ H Q E' fun b n1 H1 s1 j1 k1 => q b n1 H1 s1 j1 k1
theorem we_look (i : Nat) {ds : List D} (h : ρ[i]? = some (.own ds)) (k : WE c te (ρ.set i (.val (.lst ds))) n fun n1 d => scalar d = true ∧ Φ n1 d) : WE c te ρ n Φ := fun P L σ H Q E q => by
  obtain ⟨L', E', sub⟩ := E.freeze h
  exact k P L' σ H Q E' fun v d n1 H1 s1 j1 r1 ⟨hs, k1⟩ => q v d n1 H1 s1 j1 (r1.scal hs) k1
theorem ws_ret (h : WE c te ρ n Ψ.rt) : WS c (tRet te) ρ n Ψ := fun P L σ H Dn E A => by
  refine h P L σ H _ E fun v d n1 H1 s1 j1 r1 k => ?_
  have E1 := E.step s1 j1
  have se : Same (hid (L ++ c.O) H1) (hid c.O H1) := same_hid_sub fun a ha => List.mem_append_right _ ha
  exact A.rt v d n1 H1 E1.base j1 (r1.mono se) k
theorem ws_retN (k : Ψ.rt n .non) : WS c tRetN ρ n Ψ := fun P L σ H Dn E A => by
  have se : Same (hid (L ++ c.O) H) (hid c.O H) := same_hid_sub fun a ha => List.mem_append_right _ ha
  exact A.rt .non .non n H E.base E.bag .non k
theorem ws_if (h : WT c t ρ n fun n1 b => if b = true then WS c ts ρ n1 Ψ else WS c us ρ n1 Ψ) : WS c (tIfS t ts us) ρ n Ψ := fun P L σ H Dn E A => by
  refine h P L σ H _ E fun b n1 H1 s1 j1 k => ?_
  cases b with
  | true =>
    rw [if_pos rfl] at k ⊢
    exact k P L σ H1 Dn (E.step s1 j1) A
  | false =>
    rw [if_neg Bool.false_ne_true] at k ⊢
    exact k P L σ H1 Dn (E.step s1 j1) A
theorem ws_drop (h : WE c te ρ n fun n1 _ => Ψ.nx n1 ρ) : WS c (tDrop te) ρ n Ψ := fun P L σ H Dn E A => by
  refine h P L σ H _ E fun v d n1 H1 s1 j1 r1 k => ?_
  exact A.nx L n1 H1 σ ρ (E.step s1 j1) k
theorem ws_never (h : False) : WS c ts ρ n Ψ := h.elim
theorem WS.mono {Ψ' : Out} (h : WS c ts ρ n Ψ) (h1 : ∀ n ρ, Ψ.nx n ρ → Ψ'.nx n ρ) (h2 : ∀ n d, Ψ.rt n d → Ψ'.rt n d) (h3 : ∀ n ρ, Ψ.bk n ρ → Ψ'.bk n ρ) (h4 : ∀ n ρ, Ψ.ct n ρ → Ψ'.ct n ρ) : WS c ts ρ n Ψ' := fun P L σ H Dn E A =>
  h P L σ H Dn E { nx := fun L n H σ ρ E k => A.nx L n H σ ρ E (h1 _ _ k), rt := fun v d n H s j r k => A.rt v d n H s j r (h2 _ _ k), bk := fun L n H σ ρ E k => A.bk L n H σ ρ E (h3 _ _ k), ct := fun L n H σ ρ E k => A.ct L n H σ ρ E (h4 _ _ k) }
theorem WE.mono {Φ' : Nat → D → Prop} (h : WE c te ρ n Φ) (k : ∀ n d, Φ n d → Φ' n d) : WE c te ρ n Φ' := fun P L σ H Q E q => h P L σ H Q E fun v d n1 H1 s1 j1 r1 p => q v d n1 H1 s1 j1 r1 (k _ _ p)
theorem WT.mono {Φ Φ' : Nat → Bool → Prop} (h : WT c t ρ n Φ) (k : ∀ n d, Φ n d → Φ' n d) : WT c t ρ n Φ' := fun P L σ H Q E q => h P L σ H Q E fun v n1 H1 s1 j1 p => q v n1 H1 s1 j1 (k _ _ p)

/-! ### targets -/
theorem wg_name {R : ER → ER → Prop} {i : Nat} {d : D} {Φ : List SD → Prop} (hR : ∀ σ v, R σ (σ.set i (some v))) (k : Φ (ρ.set i (.val d))) : WG c R (gName i) d ρ n Φ := fun P L σ H v Q E r q =>
  q _ _ (E.set i r) (hR σ v) k
theorem wgs_nil {R : ER → ER → Prop} {Φ : List SD → Prop} (hR : ∀ σ, R σ σ) (k : Φ ρ) : WGs c R gNil [] ρ n Φ := fun P L σ H vs Q E r q => by
  cases r
  exact ⟨rfl, q σ ρ E (hR σ) k⟩
theorem wgs_cons {R : ER → ER → Prop} {g : TG} {gs : TGs} {d : D} {ds : List D} {Φ : List SD → Prop} (hR : ∀ a b e, R a b → R b e → R a e) (h : WG c R g d ρ n fun ρ1 => WGs c R gs ds ρ1 n Φ) : WGs c R (gCons g gs) (d :: ds) ρ n Φ := fun P L σ H vs Q E r q => by
  cases r with
  | cons r1 r2 =>
    refine ⟨_, _, rfl, ?_⟩
    refine h P L σ H _ _ E r1 fun σ' ρ' E' hR1 k => ?_
    exact k P L σ' H _ _ E' r2 fun σ2 ρ2 E2 hR2 k2 => q σ2 ρ2 E2 (hR _ _ _ hR1 hR2) k2
theorem wg_tup {R : ER → ER → Prop} {m : Nat} {gs : TGs} {ds : List D} {Φ : List SD → Prop} (hl : ds.length = m) (h : WGs c R gs ds ρ n Φ) : WG c R (gTup c.K m gs) (.tup ds) ρ n Φ := fun P L σ H v Q E r q => by
  cases r with
  | tup hs ha =>
    exact ⟨_, _, rfl, same_t same_hid hs, by rw [ha.length]; exact hl, h P L σ H _ Q E ha q⟩

/-! ### loops -/
theorem ws_for {wi : TI} {g : TG} (h : WI c wi ρ n fun n1 ds => ∃ I : Nat → Nat → List SD → Prop, I 0 n1 ρ ∧
    (∀ k m ρ1 d, ds[k]? = some d → I k m ρ1 → WG c (fun _ _ => True) g d ρ1 m fun ρ2 => WS c ts ρ2 m { nx := I (k + 1), ct := I (k + 1), bk := Ψ.nx, rt := Ψ.rt }) ∧ (∀ m ρ1, I ds.length m ρ1 → Ψ.nx m ρ1)) : WS c (tFor wi g ts) ρ n Ψ := fun P L σ H Dn E A => by
  refine h P L σ H _ E fun J ds n1 H1 s1 j1 it ⟨I, h0, hs, hd⟩ => ?_
  have E1 := (E.step s1 j1).pers'
  have pp : Same P (hid (L ++ c.O) H1) := (E.step s1 j1).pers
  have A' : Acc c (hid (L ++ c.O) H1) Ψ Dn := { nx := fun L n H σ ρ E k => A.nx L n H σ ρ (E.persOf pp) k, rt := A.rt, bk := fun L n H σ ρ E k => A.bk L n H σ ρ (E.persOf pp) k, ct := fun L n H σ ρ E k => A.ct L n H σ ρ (E.persOf pp) k }
  refine ⟨fun i m σ H => m + i = ds.length ∧ ∃ L' n' ρ', Env c (hid (L ++ c.O) H1) L' n' H σ ρ' ∧ I i n' ρ', ⟨ds.length, rfl, L, n1, ρ, E1, h0⟩, ?_⟩
  rintro i m σ' H' ⟨hm, L', n', ρ', E', hI⟩
  by_cases hi : i < ds.length
  · right
    have hg : ds[i]? = some ds[i] := List.getElem?_eq_getElem hi
    obtain ⟨go, yl⟩ := it.go L' n' H' σ' ρ' E' i _ hg
    refine ⟨go, fun σ2 H2 => ∃ L2 n2 ρ2, Env c (hid (L ++ c.O) H1) L2 n2 H2 σ2 ρ2 ∧ I (i + 1) n2 ρ2, ?_, ?_⟩
    · rintro σ2 H2 ⟨L2, n2, ρ2, E2, hI2⟩
      exact ⟨m - 1, by omega, by omega, L2, n2, ρ2, E2, hI2⟩
    · intro x H2 hy
      obtain ⟨sm, rx⟩ := yl x H2 hy
      have z := E'.same sm
      refine hs i n' ρ' _ hg hI _ L' σ' H2 x _ (E'.step z.1 z.2) rx fun σ3 ρ3 E3 _ k3 => ?_
      exact k3 _ L' σ3 H2 _ E3 { nx := fun L n H σ ρ E k => ⟨L, n, ρ, E, k⟩, rt := A.rt, bk := fun L n H σ ρ E k => A'.nx L n H σ ρ E k, ct := fun L n H σ ρ E k => ⟨L, n, ρ, E, k⟩ }
  · left
    have e : i = ds.length := by omega
    subst e
    exact ⟨it.stop L' n' H' σ' ρ' E' _ (Nat.le_refl _), A'.nx L' n' H' σ' ρ' E' (hd n' ρ' hI)⟩
end
end L3
/-! L3c: walks, comprehensions, operations. -/
namespace L3
open PySem L2

/-! ### walks -/
def signs (z : Str) : List D := z.cps.toList.map fun c => D.str ⟨#[c]⟩
def items : D → Option (List D)
  | .lst xs => some xs
  | .tup xs => some xs
  | .str z => some (signs z)
  | _ => none
def iSeq (K : PySem.W.Frag) (tl : TE) : TI := fun σ H R => tl σ H fun x H1 => (∃ a, x = .ref a ∧ (((∃ xs, SqL K H1 a xs) ∧ R (Itl K a) H1) ∨ ((∃ xs, SqT K H1 a xs) ∧ R (Itt K a) H1)))
theorem pi_seq {X : Cx} {tg l : Expr} {tl : TE} (hl : PE X l tl) : PI X tg l (iSeq X.K tl) := by
  refine ⟨fun pins s σ H R I h => ?_⟩
  refine thn (hl.run pins s σ H _ I h) fun v s1 ⟨x, H1, I1, r1, q1⟩ => ?_
  obtain ⟨a, e, ⟨⟨xs, hq⟩, q⟩ | ⟨⟨xs, hq⟩, q⟩⟩ := q1
  · subst e
    cases r1
    obtain ⟨its, rv, p, hz⟩ := I1.list hq
    refine wpAny_pyIter_list p.isList ?_
    refine ⟨s1.heap.objs.size, [s1.heap.objs.size], _, _, H1, rfl, I1.kept (t' := s1.toks) fun b o e => Heap.get?_push_of_some _ e, turn_list a _, ⟨_, Heap.get?_push_size _ rfl, rfl, rfl⟩, fun b hb => ?_, q⟩
    have e : b = s1.heap.objs.size := by simpa using hb
    subst e
    exact I1.fpOk (Nat.le_refl _) (I1.hok.fresh (Nat.le_refl _))
  · subst e
    cases r1
    obtain ⟨its, rv, p, hz⟩ := I1.tuple hq
    refine wpAny_pyIter_tuple (show s1.heap.IsTuple a its.toArray from p) ?_
    refine ⟨s1.heap.objs.size, [s1.heap.objs.size], _, _, H1, rfl, I1.kept (t' := s1.toks) fun b o e => Heap.get?_push_of_some _ e, turn_tuple a _, ⟨_, Heap.get?_push_size _ rfl, rfl, rfl⟩, fun b hb => ?_, q⟩
    have e : b = s1.heap.objs.size := by simpa using hb
    subst e
    exact I1.fpOk (Nat.le_refl _) (I1.hok.fresh (Nat.le_refl _))
section
variable {c : Ctx} {ρ : List SD} {n : Nat} {ta tb te : TE} {t u : TT} {as : TA} {Φ : Nat → D → Prop} {Ψ : Out} {ts us : TS}
theorem Env.perR {P : Hp} {L : List Addr} {n : Nat} {H : Hp} {σ : List (Option V)} (E : Env c P L n H σ ρ) : Same P H := E.pers.trans same_hid
theorem it_l {a : Addr} {xs : List V} {ds : List D} {P : Hp} (hs : SqL c.K P a xs) (hr : RpAll c.K P xs ds) : ItOk c (Itl c.K a) ds P where
  go := fun L n H σ ρ E i d hd => by
    obtain ⟨v, h1, h2⟩ := hr.get' hd
    refine ⟨⟨xs, v, same_l E.perR hs, h1⟩, fun x H' ⟨e, hy⟩ => ?_⟩
    subst e
    have e := hy xs (same_l E.perR hs)
    rw [h1] at e
    cases e
    exact ⟨Same.refl _, h2.mono E.pers⟩
  stop := fun L n H σ ρ E i hi => ⟨xs, same_l E.perR hs, by rw [hr.length]; exact hi⟩
theorem it_t {a : Addr} {xs : List V} {ds : List D} {P : Hp} (hs : SqT c.K P a xs) (hr : RpAll c.K P xs ds) : ItOk c (Itt c.K a) ds P where
  go := fun L n H σ ρ E i d hd => by
    obtain ⟨v, h1, h2⟩ := hr.get' hd
    refine ⟨⟨xs, v, same_t E.perR hs, h1⟩, fun x H' ⟨e, hy⟩ => ?_⟩
    subst e
    have e := hy xs (same_t E.perR hs)
    rw [h1] at e
    cases e
    exact ⟨Same.refl _, h2.mono E.pers⟩
  stop := fun L n H σ ρ E i hi => ⟨xs, same_t E.perR hs, by rw [hr.length]; exact hi⟩
def seqD : D → Option (List D)
  | .lst xs => some xs
  | .tup xs => some xs
  | _ => none
theorem wi_seq {Φ : Nat → List D → Prop} (h : WE c te ρ n fun n1 d => ∃ ds, seqD d = some ds ∧ Φ n1 ds) : WI c (iSeq c.K te) ρ n Φ := fun P L σ H R E q => by
  refine h P L σ H _ E fun x d n1 H1 s1 j1 r1 ⟨ds, e, k⟩ => ?_
  cases r1 with
  | lst hs ha =>
    cases e
    exact ⟨_, rfl, .inl ⟨⟨_, .inl (same_rd same_hid hs)⟩, q _ _ n1 H1 s1 j1 (it_l (.inl hs) ha) k⟩⟩
  | tup hs ha =>
    cases e
    exact ⟨_, rfl, .inr ⟨⟨_, same_t same_hid hs⟩, q _ _ n1 H1 s1 j1 (it_t hs ha) k⟩⟩
  | _ => cases e
def rangeD (lo : Int) (m : Nat) : List D := (List.range m).map fun k => D.int (lo + (k : Nat))
theorem rangeD_get {lo : Int} {m i : Nat} {d : D} (h : (rangeD lo m)[i]? = some d) : i < m ∧ d = .int (lo + i) := by
  unfold rangeD at h
  rw [List.getElem?_map] at h
  by_cases hi : i < m
  · rw [List.getElem?_range hi] at h
    exact ⟨hi, (Option.some.inj h).symm⟩
  · rw [List.getElem?_eq_none (by simp; omega)] at h
    cases h
theorem rangeD_len {lo : Int} {m : Nat} : (rangeD lo m).length = m := by unfold rangeD; simp
theorem it_r {lo : Int} {m : Nat} {P : Hp} : ItOk c (Itr lo m) (rangeD lo m) P where
  go := fun L n H σ ρ E i d hd => by
    obtain ⟨h1, h2⟩ := rangeD_get hd
    refine ⟨h1, fun x H' ⟨e, hy⟩ => ?_⟩
    subst e; subst hy; subst h2
    exact ⟨Same.refl _, .int _⟩
  stop := fun L n H σ ρ E i hi => by rw [rangeD_len] at hi; exact hi
theorem wi_rng1 {Φ : Nat → List D → Prop} (h : WA c as ρ n fun n1 ds => ∃ j : Int, ds = [.int j] ∧ -(2 ^ 62) ≤ j ∧ j < 2 ^ 62 ∧ Φ n1 (rangeD 0 j.toNat)) : WI c (iRng1 as) ρ n Φ := fun P L σ H R E q => by
  refine h P L σ H _ E fun vs ds n1 H1 s1 j1 r1 ⟨j, e, h1, h2, k⟩ => ?_
  subst e
  cases r1 with
  | cons r rr =>
    cases rr
    cases r
    exact ⟨j, rfl, h1, h2, q _ _ n1 H1 s1 j1 it_r k⟩
theorem wi_rng2 {Φ : Nat → List D → Prop} (h : WA c as ρ n fun n1 ds => ∃ i j : Int, ds = [.int i, .int j] ∧ (-(2 ^ 62) ≤ i ∧ i < 2 ^ 62 ∧ -(2 ^ 62) ≤ j ∧ j < 2 ^ 62) ∧ Φ n1 (rangeD i (j - i).toNat)) : WI c (iRng2 as) ρ n Φ := fun P L σ H R E q => by
  refine h P L σ H _ E fun vs ds n1 H1 s1 j1 r1 ⟨i, j, e, h1, k⟩ => ?_
  subst e
  cases r1 with
  | cons r rr =>
    cases rr with
    | cons r2 rr =>
      cases rr
      cases r
      cases r2
      exact ⟨i, j, rfl, h1, q _ _ n1 H1 s1 j1 it_r k⟩
/-- pairs (i, x) -/
def enumD (i : Int) : List D → List D
  | [] => []
  | d :: ds => .tup [.int i, d] :: enumD (i + 1) ds
theorem enumD_len : ∀ (ds : List D) (i : Int), (enumD i ds).length = ds.length
  | [], _ => rfl
  | _ :: ds, i => by show (enumD (i + 1) ds).length + 1 = ds.length + 1; rw [enumD_len ds]
theorem enumD_get : ∀ {ds : List D} {i : Int} {k : Nat} {d : D}, (enumD i ds)[k]? = some d → ∃ e, ds[k]? = some e ∧ d = .tup [.int (i + k), e]
  | [], i, k, d, h => by simp [enumD] at h
  | x :: ds, i, 0, d, h => by
    simp [enumD] at h
    exact ⟨x, rfl, by rw [← h]; simp⟩
  | x :: ds, i, k + 1, d, h => by
    obtain ⟨e, h1, h2⟩ := enumD_get (ds := ds) (i := i + 1) (k := k) (by simpa [enumD] using h)
    refine ⟨e, by simpa using h1, ?_⟩
    rw [h2]
    have : i + 1 + (k : Int) = i + ((k + 1 : Nat) : Int) := by omega
    rw [this]
theorem it_e {a : Addr} {xs : List V} {ds : List D} {P : Hp} (hs : SqL c.K P a xs) (hr : RpAll c.K P xs ds) : ItOk c (Ite c.K a) (enumD 0 ds) P where
  go := fun L n H σ ρ E i d hd => by
    obtain ⟨e, h1, h2⟩ := enumD_get hd
    obtain ⟨v, g1, g2⟩ := hr.get' h1
    subst h2
    refine ⟨⟨xs, v, same_l E.perR hs, g1⟩, fun x H' ⟨T, y, e1, e2, e3, hy⟩ => ?_⟩
    subst e1; subst e3
    have e4 := hy xs (same_l E.perR hs)
    rw [g1] at e4
    cases e4
    have sm := same_upd_new (o := .tup [.int (i : Nat), v]) e2
    refine ⟨sm, .tup (.inl (.inl (hid_at (E.noO T e2)))) (.cons ?_ (.cons ((g2.mono E.pers).mono (same_hid_of sm)) .nil))⟩
    have e5 : (0 : Int) + (i : Int) = (i : Int) := by omega
    rw [e5]
    exact .int _
  stop := fun L n H σ ρ E i hi => by
    rw [enumD_len] at hi
    exact ⟨xs, same_l E.perR hs, by rw [hr.length]; exact hi⟩
theorem wi_enum {Φ : Nat → List D → Prop} (h : WA c as ρ n fun n1 ds => ∃ xs, ds = [.lst xs] ∧ Φ n1 (enumD 0 xs)) : WI c (iEnum c.K as) ρ n Φ := fun P L σ H R E q => by
  refine h P L σ H _ E fun vs ds n1 H1 s1 j1 r1 ⟨xs, e, k⟩ => ?_
  subst e
  cases r1 with
  | cons r rr =>
    cases rr
    cases r with
    | lst hs ha => exact ⟨_, _, rfl, .inl (same_rd same_hid hs), q _ _ n1 H1 s1 j1 (it_e (.inl hs) ha) k⟩

/-! ### comprehensions -/
def wipeR (ρ : List SD) : List Nat → List SD
  | [] => ρ
  | v :: vs => (wipeR ρ vs).set v .un
theorem Slots.unset {pr : Program} {wd : World} {K : PySem.W.Frag} {O : List Addr} {H : Hp} : ∀ {σ : List (Option V)} {ρ : List SD} {L : List Addr} (i : Nat), Slots pr wd K O H σ ρ L → ∃ L', Slots pr wd K O H (σ.set i none) (ρ.set i .un) L' ∧ L'.Sublist L
  | _, _, _, _, .nil => ⟨[], .nil, List.Sublist.refl _⟩
  | _, _, _, 0, .un s => ⟨_, .un s, List.Sublist.refl _⟩
  | _, _, _, 0, .val _ s => ⟨_, .un s, List.Sublist.refl _⟩
  | _, _, _, 0, .own _ _ s => ⟨_, .un s, List.sublist_cons_self _ _⟩
  | _, _, _, i + 1, .un s => by
    obtain ⟨L', h1, h2⟩ := Slots.unset i s
    exact ⟨L', .un h1, h2⟩
  | _, _, _, i + 1, .val h s => by
    obtain ⟨L', h1, h2⟩ := Slots.unset i s
    exact ⟨L', .val h h1, h2⟩
  | _, _, _, i + 1, .own h r s => by
    obtain ⟨L', h1, h2⟩ := Slots.unset i s
    exact ⟨_ :: L', .own h r h1, h2.cons_cons _⟩
  | _, _, _, 0, .dic _ s => ⟨_, .un s, List.sublist_cons_self _ _⟩
  | _, _, _, 0, .dk _ s => ⟨_, .un s, List.sublist_cons_self _ _⟩
  | _, _, _, 0, .tw _ s => ⟨_, .un s, List.sublist_cons_self _ _⟩
  | _, _, _, i + 1, .dic h s => by
    obtain ⟨L', h1, h2⟩ := Slots.unset i s
    exact ⟨_ :: L', .dic h h1, h2.cons_cons _⟩
  | _, _, _, i + 1, .dk h s => by
    obtain ⟨L', h1, h2⟩ := Slots.unset i s
    exact ⟨_ :: L', .dk h h1, h2.cons_cons _⟩
  | _, _, _, i + 1, .tw h s => by
    obtain ⟨L', h1, h2⟩ := Slots.unset i s
    exact ⟨_ :: L', .tw h h1, h2.cons_cons _⟩
  | _, _, _, 0, .ot _ q s => ⟨_, .un s, by rw [q]; exact List.sublist_append_right _ _⟩
  | _, _, _, i + 1, .ot h q s => by
    obtain ⟨L', h1, h2⟩ := Slots.unset i s
    exact ⟨_, .ot h rfl h1, by rw [q]; exact List.Sublist.append_left h2 _⟩
theorem Slots.wipe {pr : Program} {wd : World} {K : PySem.W.Frag} {O : List Addr} {H : Hp} {σ : List (Option V)} {ρ : List SD} {L : List Addr} (s : Slots pr wd K O H σ ρ L) : ∀ vs : List Nat, ∃ L', Slots pr wd K O H (wipe σ vs) (wipeR ρ vs) L' ∧ L'.Sublist L
  | [] => ⟨L, s, List.Sublist.refl _⟩
  | v :: vs => by
    obtain ⟨L1, h1, h2⟩ := Slots.wipe s vs
    obtain ⟨L2, h3, h4⟩ := h1.unset v
    exact ⟨L2, h3, h4.trans h2⟩
theorem wipe_set {σ : List (Option V)} {i : Nat} {v : V} : ∀ {vs : List Nat}, i ∈ vs → wipe (σ.set i (some v)) vs = wipe σ vs
  | w :: vs, h => by
    show (wipe (σ.set i (some v)) vs).set w none = (wipe σ vs).set w none
    by_cases hi : i ∈ vs
    · rw [wipe_set hi]
    · have hw : w = i := by
        rcases List.mem_cons.mp h with e | e
        · exact e.symm
        · exact absurd e hi
      subst hw
      have z : ∀ us : List Nat, w ∉ us → wipe (σ.set w (some v)) us = (wipe σ us).set w (some v) := by
        intro us
        induction us with
        | nil => intro _; rfl
        | cons u us ih =>
          intro hn
          show (wipe (σ.set w (some v)) us).set u none = ((wipe σ us).set u none).set w (some v)
          rw [ih fun q => hn (List.mem_cons_of_mem _ q)]
          exact List.set_comm _ _ fun e => hn (by rw [e]; exact List.mem_cons_self)
      rw [z vs hi, List.set_set]
theorem wipe_get {i : Nat} : ∀ {vs : List Nat} {σ : List (Option V)}, (wipe σ vs)[i]? = if i ∈ vs then σ[i]?.map fun _ => none else σ[i]?
  | [], σ => by simp [wipe]
  | v :: vs, σ => by
    show ((wipe σ vs).set v none)[i]? = _
    rw [List.getElem?_set]
    by_cases e : v = i
    · subst e
      rw [if_pos rfl, if_pos List.mem_cons_self]
      by_cases hl : v < (wipe σ vs).length
      · rw [if_pos hl]
        rw [wipe_length] at hl
        rw [List.getElem?_eq_getElem hl]; rfl
      · rw [if_neg hl]
        rw [wipe_length] at hl
        rw [List.getElem?_eq_none (by omega)]; rfl
    · rw [if_neg e, wipe_get]
      by_cases h : i ∈ vs
      · rw [if_pos h, if_pos (List.mem_cons_of_mem _ h)]
      · rw [if_neg h, if_neg (fun q => by rcases List.mem_cons.mp q with z | z; exact e z.symm; exact h z)]
theorem wipe_idem (σ : List (Option V)) (vs : List Nat) : wipe (wipe σ vs) vs = wipe σ vs := by
  apply List.ext_getElem?
  intro i
  rw [wipe_get, wipe_get]
  by_cases h : i ∈ vs
  · rw [if_pos h, if_pos h]; cases σ[i]? <;> rfl
  · rw [if_neg h, if_neg h]
theorem Slots.inj {pr : Program} {wd : World} {K : PySem.W.Frag} {O O' : List Addr} {H H' : Hp} : ∀ {σ : List (Option V)} {ρ : List SD} {L L' : List Addr}, Slots pr wd K O H σ ρ L → Slots pr wd K O' H' σ ρ L' → L = L'
  | _, _, _, _, .nil, .nil => rfl
  | _, _, _, _, .un s, .un t => Slots.inj s t
  | _, _, _, _, .val _ s, .val _ t => Slots.inj s t
  | _, _, _, _, .own _ _ s, .own _ _ t => by rw [Slots.inj s t]
  | _, _, _, _, .dic _ s, .dic _ t => by rw [Slots.inj s t]
  | _, _, _, _, .dk _ s, .dk _ t => by rw [Slots.inj s t]
  | _, _, _, _, .tw _ s, .tw _ t => by rw [Slots.inj s t]
  | _, _, _, _, .ot _ q s, .ot _ q2 t => by rw [q, q2, Slots.inj s t]
theorem Env.noneB {P : Hp} {L : List Addr} {n n' : Nat} {H H' : Hp} {σ : List (Option V)} (E : Env c P L n H σ ρ) (e : Same (hid c.B H) (hid c.B H')) (j : c.J n' H') {p : Addr} (hp : H' p = none) : H p = none := by
  cases h : H p with
  | none => rfl
  | some o =>
    by_cases hb : p ∈ c.B
    · exact absurd hp ((E.step e j).al p (E.inO hb))
    · rw [(hid_some.mp (e p o (hid_some.mpr ⟨hb, h⟩))).2] at hp
      cases hp
theorem same_upd_old {B : List Addr} {H H' : Hp} {D : Addr} {o : HO} (h : H D = none) (s : Same (hid B H) (hid B H')) : Same (hid B H) (hid B (upd H' D o)) := fun a u e => by
  obtain ⟨h1, h2⟩ := hid_some.mp (s a u e)
  have ne : a ≠ D := fun q => by
    rw [q, hid_some, h] at e
    cases e.2
  exact hid_some.mpr ⟨h1, by rw [upd_ne ne]; exact h2⟩
/-- what the store to a comprehension's own names leaves -/
abbrev RW (vs : List Nat) : ER → ER → Prop := fun a b => wipe b vs = wipe a vs
theorem rw_name {vs : List Nat} {i : Nat} (h : i ∈ vs) : ∀ (σ : ER) (v : V), RW vs σ (σ.set i (some v)) := fun σ v => wipe_set h
theorem rw_refl {vs : List Nat} : ∀ σ : ER, RW vs σ σ := fun _ => rfl
theorem rw_trans {vs : List Nat} : ∀ a b e : ER, RW vs a b → RW vs b e → RW vs a e := fun _ _ _ h1 h2 => h2.trans h1
/-- the new list of a comprehension grows -/
theorem Env.grow {P : Hp} {L : List Addr} {n : Nat} {H : Hp} {σ : List (Option V)} {D : Addr} {xs : List V} {Ls : List Addr} (E : Env c P L n H σ ρ) (hD : D ∈ L) (sl : Slots c.pr c.wd c.K (L ++ c.O) H σ ρ Ls) (sb : Ls.Sublist L) (hn : D ∉ Ls) : Env c P L n (upd H D (.lst xs)) σ ρ := by
  have hm : D ∈ L ++ c.O := List.mem_append_left _ hD
  have hB : D ∉ c.B := E.notB hD
  have hO : D ∉ c.O := (E.fresh D hD).2
  exact { nd := E.nd, fresh := E.fresh,
          slots := ⟨Ls, sl.move (fun l hl => upd_ne fun e => hn (e ▸ hl)) (by rw [hid_upd_in hm]; exact Same.refl _), sb⟩,
          lst := fun l hl => by
            by_cases e : l = D
            · exact ⟨_, by rw [e, upd_same]⟩
            · rw [upd_ne e]; exact E.lst l hl,
          bag := fun b q hb => (E.bag b q hb).move (fun o h => by rw [upd_ne fun e : b = D => hO (e ▸ (E.bO b q hb).1)]; exact h) fun o h => by rw [upd_ne fun e : q = D => hO (e ▸ (E.bO b q hb).2.1)]; exact h,
          base := fun a o h => by
            have h0 : c.H0 D = none := (E.fresh D hD).1
            have ne : a ≠ D := fun e => by
              rw [e, hid_some] at h
              rw [h0] at h
              cases h.2
            obtain ⟨h1, h2⟩ := hid_some.mp (E.base a o h)
            exact hid_some.mpr ⟨h1, by rw [upd_ne ne]; exact h2⟩,
          pers := by rw [hid_upd_in hm]; exact E.pers,
          bO := E.bO,
          al := fun o ho => by rw [upd_ne fun e : o = D => hO (e ▸ ho)]; exact E.al o ho }
theorem Env.newOwn {P : Hp} {L : List Addr} {n : Nat} {H : Hp} {σ : List (Option V)} {D : Addr} {xs : List V} (E : Env c P L n H σ ρ) (hD : H D = none) : Env c P (D :: L) n (upd H D (.lst xs)) σ ρ := by
  have w := E.new hD
  obtain ⟨Ls, sl, sb⟩ := E.slots
  have e0 : hid ((D :: L) ++ c.O) (upd H D (.lst xs)) = hid (L ++ c.O) H := hid_new_in hD
  exact { nd := List.nodup_cons.mpr ⟨w.2.2, E.nd⟩,
          fresh := fun l hl => by
            rcases List.mem_cons.mp hl with e | e
            · subst e; exact ⟨w.1, w.2.1⟩
            · exact E.fresh l e,
          slots := ⟨Ls, sl.move (fun l hl => upd_ne fun e => w.2.2 (e ▸ sb.subset hl)) (by rw [e0]; exact Same.refl _), sb.cons _⟩,
          lst := fun l hl => by
            rcases List.mem_cons.mp hl with e | e
            · subst e; exact ⟨_, upd_same⟩
            · rw [upd_ne fun q : l = D => w.2.2 (q ▸ e)]; exact E.lst l e,
          bag := (E.newT hD).2.1,
          base := E.base.trans (E.newT hD).1,
          pers := by rw [e0]; exact E.pers,
          bO := E.bO,
          al := fun o ho => by rw [upd_ne fun e : o = D => w.2.1 (e ▸ ho)]; exact E.al o ho }
theorem wf_lc {wi : TI} {g : TG} {vs : List Nat} {Φ : Nat → List D → Prop} (h : WI c wi ρ n fun n1 ds => ∃ I : Nat → Nat → List D → Prop, I 0 n1 [] ∧
    (∀ k m acc d, ds[k]? = some d → I k m acc → WG c (RW vs) g d (wipeR ρ vs) m fun ρ2 => WT c t ρ2 m fun m2 b => if b = true then WE c te ρ2 m2 fun m3 y => acc.length < sizeLine ∧ I (k + 1) m3 (acc ++ [y]) else I (k + 1) m2 acc) ∧
    (∀ m acc, I ds.length m acc → Φ m acc)) : WF c (tLc wi g t te vs) ρ n Φ := fun P L σ H Q E q => by
  refine h P L σ H _ E fun J ds n1 H1 s1 j1 it ⟨I, h0, hs, hd⟩ => ?_
  intro D hD
  have E1 := (E.step s1 j1).pers'
  obtain ⟨Ls, sl, sb⟩ := E1.slots
  obtain ⟨Lw, slw, sbw⟩ := sl.wipe vs
  have Ew : Env c (hid (L ++ c.O) H1) L n1 H1 (wipe σ vs) (wipeR ρ vs) := E1.reslot slw (sbw.trans sb)
  have E2 := Ew.newOwn (xs := []) hD
  have DnL : D ∉ L := (E1.new hD).2.2
  -- the loop's invariant
  refine ⟨fun i m H' => m + i = ds.length ∧ ∃ n' xs acc, Env c (hid (L ++ c.O) H1) (D :: L) n' H' (wipe σ vs) (wipeR ρ vs) ∧ H' D = some (.lst xs) ∧ RpAll c.K (hid ((D :: L) ++ c.O) H') xs acc ∧ Same (hid c.B H1) (hid c.B H') ∧ I i n' acc, ⟨ds.length, rfl, n1, [], [], E2, upd_same, .nil, (E1.newT hD).1, h0⟩, ?_⟩
  rintro i m H' ⟨hm, n', xs, acc, E', hDx, hacc, sB, hI⟩
  by_cases hi : i < ds.length
  · right
    have hg : ds[i]? = some ds[i] := List.getElem?_eq_getElem hi
    obtain ⟨go, yl⟩ := it.go (D :: L) n' H' _ _ E' i _ hg
    refine ⟨go, fun H2 => ∃ n' xs acc, Env c (hid (L ++ c.O) H1) (D :: L) n' H2 (wipe σ vs) (wipeR ρ vs) ∧ H2 D = some (.lst xs) ∧ RpAll c.K (hid ((D :: L) ++ c.O) H2) xs acc ∧ Same (hid c.B H1) (hid c.B H2) ∧ I (i + 1) n' acc, ?_, ?_⟩
    · rintro H2 ⟨n2, xs2, acc2, a1, a2, a3, a4, a5⟩
      exact ⟨m - 1, by omega, by omega, n2, xs2, acc2, a1, a2, a3, a4, a5⟩
    · intro x H2 hy
      obtain ⟨sm, rx⟩ := yl x H2 hy
      have z := E'.same sm
      have E2' := E'.step z.1 z.2
      refine hs i n' acc _ hg hI _ (D :: L) _ H2 x _ E2' rx fun σ3 ρ3 E3 hw k3 => ?_
      refine ⟨hw.trans (wipe_idem σ vs), ?_⟩
      refine k3 _ (D :: L) σ3 H2 _ E3 fun b n4 H4 s4 j4 k4 => ?_
      have back : ∀ {H5 : Hp} {n5 : Nat}, Same (hid c.B H2) (hid c.B H5) → c.J n5 H5 → Env c (hid (L ++ c.O) H1) (D :: L) n5 H5 (wipe σ vs) (wipeR ρ vs) := fun s5 j5 => E2'.step s5 j5
      have own : ∀ {H5 : Hp}, Same (hid c.B H2) (hid c.B H5) → H5 D = some (.lst xs) := fun s5 => by
        rw [E2'.own s5 D List.mem_cons_self]
        exact sm D _ hDx
      have accs : ∀ {H5 : Hp}, Same (hid c.B H2) (hid c.B H5) → RpAll c.K (hid ((D :: L) ++ c.O) H5) xs acc := fun s5 => (hacc.mono (same_hid_of sm)).mono (E2'.sameLO s5)
      cases b with
      | false =>
        rw [if_neg Bool.false_ne_true] at k4 ⊢
        exact ⟨n4, xs, acc, back s4 j4, own s4, accs s4, (sB.trans z.1).trans s4, k4⟩
      | true =>
        rw [if_pos rfl] at k4 ⊢
        refine k4 _ (D :: L) σ3 H4 _ (E3.step s4 j4) fun y d n5 H5 s5 j5 r5 ⟨hz, k5⟩ => ?_
        have s45 := s4.trans s5
        refine ⟨xs, own s45, by rw [hacc.length]; exact hz, n5, xs ++ [y], acc ++ [d], ?_, upd_same, ?_, ?_, k5⟩
        · have Eb := back s45 j5
          obtain ⟨Ls5, sl5, sb5⟩ := Eb.slots
          have e5 := sl5.inj slw
          subst e5
          exact Eb.grow List.mem_cons_self sl5 sb5 fun q => DnL ((sbw.trans sb).subset q)
        · have hm : D ∈ (D :: L) ++ c.O := List.mem_append_left _ List.mem_cons_self
          rw [hid_upd_in hm]
          exact (accs s45).append (.cons r5 .nil)
        · exact same_upd_old hD ((sB.trans z.1).trans s45)
  · left
    have e : i = ds.length := by omega
    subst e
    refine ⟨it.stop (D :: L) n' H' _ _ E' _ (Nat.le_refl _), ?_⟩
    exact q D xs acc n' H' (s1.trans sB) (E.noneB s1 j1 hD) hDx hacc E'.bag (hd n' acc hI)
end
end L3
/-! L3d: operations over data. -/
namespace L3
open PySem L2

/-! ### data as the library's data -/
mutual
def dpy : D → PyData
  | .non => .none
  | .bl b => .bool b
  | .int i => .int i
  | .str s => .str s
  | .lst xs => .list (dpyAll xs)
  | .tup xs => .tuple (dpyAll xs)
  | .obj _ _ => .none
  | .dct _ => .none
  | .dcn _ _ _ => .none
  | .adr _ => .none
  | .ty _ => .none
  | .er _ _ => .none
def dpyAll : List D → List PyData
  | [] => []
  | x :: xs => dpy x :: dpyAll xs
end
mutual
def plain : D → Bool
  | .lst xs => plainAll xs
  | .tup xs => plainAll xs
  | .obj _ _ => false
  | .dct _ => false
  | .dcn _ _ _ => false
  | .adr _ => false
  | .ty _ => false
  | .er _ _ => false
  | _ => true
def plainAll : List D → Bool
  | [] => true
  | x :: xs => plain x && plainAll xs
end
theorem dpyAll_map : ∀ xs : List D, dpyAll xs = xs.map dpy
  | [] => rfl
  | x :: xs => by show dpy x :: dpyAll xs = _; rw [dpyAll_map xs]; rfl
section
variable {K : PySem.W.Frag} {H : Hp}
mutual
theorem dp_D : ∀ (d : D) (v : V), Rp K H v d → plain d = true → Dp K H v (dpy d)
  | .non, _, h, _ => by cases h; exact .non
  | .bl b, _, h, _ => by cases h; exact .bl b
  | .int i, _, h, _ => by cases h; exact .int i
  | .str x, _, h, _ => by cases h; exact .str x
  | .lst xs, _, h, p => by
    cases h with
    | lst h r => exact .lst (.inl h) (dp_Ds xs _ r p)
  | .tup xs, _, h, p => by
    cases h with
    | tup h r => exact .tup h (dp_Ds xs _ r p)
  | .obj _ _, _, _, p => by cases p
  | .adr _, _, _, p => by cases p
  | .ty _, _, _, p => by cases p
  | .er _ _, _, _, p => by cases p
  | .dct _, _, _, p => by cases p
  | .dcn _ _ _, _, _, p => by cases p
theorem dp_Ds : ∀ (ds : List D) (vs : List V), RpAll K H vs ds → plainAll ds = true → DpAll K H vs (dpyAll ds)
  | [], _, h, _ => by cases h; exact .nil
  | x :: xs, _, h, p => by
    cases h with
    | cons h r =>
      have p' : (plain x && plainAll xs) = true := p
      rw [Bool.and_eq_true] at p'
      exact .cons (dp_D x _ h p'.1) (dp_Ds xs _ r p'.2)
end
theorem Rp.dp {v : V} {d : D} (h : Rp K H v d) (p : plain d = true) : Dp K H v (dpy d) := dp_D d v h p
theorem RpAll.dp {vs : List V} {ds : List D} (h : RpAll K H vs ds) (p : plainAll ds = true) : DpAll K H vs (dpyAll ds) := dp_Ds ds vs h p
mutual
theorem Dp.mono {H' : Hp} (e : Same H H') : ∀ {v : V} {d : PyData}, Dp K H v d → Dp K H' v d
  | _, _, .non => .non
  | _, _, .bl b => .bl b
  | _, _, .int i => .int i
  | _, _, .str x => .str x
  | _, _, .lst h r => .lst (same_l e h) (DpAll.mono e r)
  | _, _, .tup h r => .tup (same_t e h) (DpAll.mono e r)
theorem DpAll.mono {H' : Hp} (e : Same H H') : ∀ {vs : List V} {ds : List PyData}, DpAll K H vs ds → DpAll K H' vs ds
  | _, _, .nil => .nil
  | _, _, .cons h r => .cons (Dp.mono e h) (DpAll.mono e r)
end
end
/-- fit for == -/
def fit (d : D) : Bool := plain d && SeqAt.shaped (dpy d)
def eqD (d e : D) : Bool := PyData.eqv (dpy d) (dpy e)
theorem fit_p {d : D} (h : fit d = true) : plain d = true := (Bool.and_eq_true_iff.mp h).1
theorem fit_s {d : D} (h : fit d = true) : SeqAt.shaped (dpy d) = true := (Bool.and_eq_true_iff.mp h).2
section
variable {K : PySem.W.Frag} {Φ : D → Prop}
theorem r2_eqD {d e : D} (hd : fit d = true) (he : fit e = true) (k : Φ (.bl (eqD d e))) : R2D K (rEqD K) d e Φ := fun O H x y Q rx ry _ q =>
  ⟨dpy d, dpy e, Dp.mono same_hid (rx.dp (fit_p hd)), Dp.mono same_hid (ry.dp (fit_p he)), fit_s hd, fit_s he, q _ _ H (Same.refl _) (.bl _) k⟩
theorem r2_neD {d e : D} (hd : fit d = true) (he : fit e = true) (k : Φ (.bl (!eqD d e))) : R2D K (rNeD K) d e Φ := fun O H x y Q rx ry _ q =>
  ⟨dpy d, dpy e, Dp.mono same_hid (rx.dp (fit_p hd)), Dp.mono same_hid (ry.dp (fit_p he)), fit_s hd, fit_s he, q _ _ H (Same.refl _) (.bl _) k⟩
end
/-- in, over a list or a tuple of data -/
def rInS (K : PySem.W.Frag) (neg : Bool) : R2 := fun x y H Q => ∃ d ds, Dp K H x d ∧ (Dp K H y (.list ds) ∨ Dp K H y (.tuple ds)) ∧ SeqAt.shaped d = true ∧ SeqAt.shaped (.list ds) = true ∧ Q (.bl (if neg then !ds.any fun z => PyData.eqv z d else ds.any fun z => PyData.eqv z d)) H
theorem op_inSeq {X : Cx} (hu : X.A.units + 65 < cLine) : OpR X (compareOp .In) (rInS X.K false) := by
  intro pins s σ H x y v u Q I rx ry h
  obtain ⟨d, ds, hd, he | he, sd, se, q⟩ := h
  · obtain ⟨as, r1⟩ := Dp.reads I d x v hd rx
    obtain ⟨bs, r2⟩ := Dp.reads I (.list ds) y u he ry
    exact SeqAt.in_list_reads r2 r1 (SeqAt.canLay_of_shaped se) (SeqAt.canLay_of_shaped sd) (PyProof.Rows.room_in_shaped sd hu) ⟨.bl _, H, I, rfl, q⟩
  · obtain ⟨as, r1⟩ := Dp.reads I d x v hd rx
    obtain ⟨bs, r2⟩ := Dp.reads I (.tuple ds) y u he ry
    exact SeqAt.in_tuple_reads r2 r1 (SeqAt.canLay_of_shaped se) (SeqAt.canLay_of_shaped sd) (PyProof.Rows.room_in_shaped sd hu) ⟨.bl _, H, I, rfl, q⟩
theorem op_notInSeq {X : Cx} (hu : X.A.units + 65 < cLine) : OpR X (compareOp .NotIn) (rInS X.K true) := by
  intro pins s σ H x y v u Q I rx ry h
  obtain ⟨d, ds, hd, he | he, sd, se, q⟩ := h
  · obtain ⟨as, r1⟩ := Dp.reads I d x v hd rx
    obtain ⟨bs, r2⟩ := Dp.reads I (.list ds) y u he ry
    exact SeqAt.notIn_list_reads r2 r1 (SeqAt.canLay_of_shaped se) (SeqAt.canLay_of_shaped sd) (PyProof.Rows.room_in_shaped sd hu) ⟨.bl _, H, I, rfl, q⟩
  · obtain ⟨as, r1⟩ := Dp.reads I d x v hd rx
    obtain ⟨bs, r2⟩ := Dp.reads I (.tuple ds) y u he ry
    exact SeqAt.notIn_tuple_reads r2 r1 (SeqAt.canLay_of_shaped se) (SeqAt.canLay_of_shaped sd) (PyProof.Rows.room_in_shaped sd hu) ⟨.bl _, H, I, rfl, q⟩
def inD (d : D) (ds : List D) : Bool := ds.any fun z => eqD z d
theorem inD_py (d : D) (ds : List D) : ((dpyAll ds).any fun z => PyData.eqv z (dpy d)) = inD d ds := by
  rw [dpyAll_map, List.any_map]; rfl
theorem r2_in {K : PySem.W.Frag} {Φ : D → Prop} {d e : D} {ds : List D} (hs : seqD e = some ds) (hd : fit d = true) (he : fit (.lst ds) = true) (k : Φ (.bl (inD d ds))) : R2D K (rInS K false) d e Φ := fun O H x y Q rx ry _ q => by
  have z : PyData.list (dpyAll ds) = dpy (.lst ds) := rfl
  refine ⟨dpy d, dpyAll ds, Dp.mono same_hid (rx.dp (fit_p hd)), ?_, fit_s hd, fit_s he, ?_⟩
  · cases ry with
    | lst h r => cases hs; exact .inl (Dp.mono same_hid (.lst (.inl h) (r.dp (fit_p he))))
    | tup h r => cases hs; exact .inr (Dp.mono same_hid (.tup h (r.dp (fit_p he))))
    | _ => cases hs
  · show Q (.bl (if false = true then _ else ((dpyAll ds).any fun z => PyData.eqv z (dpy d)))) H
    rw [if_neg Bool.false_ne_true, inD_py]
    exact q _ _ H (Same.refl _) (.bl _) k
theorem r2_notIn {K : PySem.W.Frag} {Φ : D → Prop} {d e : D} {ds : List D} (hs : seqD e = some ds) (hd : fit d = true) (he : fit (.lst ds) = true) (k : Φ (.bl (!inD d ds))) : R2D K (rInS K true) d e Φ := fun O H x y Q rx ry _ q => by
  refine ⟨dpy d, dpyAll ds, Dp.mono same_hid (rx.dp (fit_p hd)), ?_, fit_s hd, fit_s he, ?_⟩
  · cases ry with
    | lst h r => cases hs; exact .inl (Dp.mono same_hid (.lst (.inl h) (r.dp (fit_p he))))
    | tup h r => cases hs; exact .inr (Dp.mono same_hid (.tup h (r.dp (fit_p he))))
    | _ => cases hs
  · show Q (.bl (if true = true then !((dpyAll ds).any fun z => PyData.eqv z (dpy d)) else _)) H
    rw [if_pos rfl, inD_py]
    exact q _ _ H (Same.refl _) (.bl _) k

/-! ### subscripts, slices -/
def ixD : D → Int → Option D
  | .lst xs, i => atI xs i
  | .tup xs, i => atI xs i
  | .str z, i => if z.length ≤ sizeLine then (atI z.cps.toList i).map fun c => .str ⟨#[c]⟩ else none
  | _, _ => none
theorem atI_rp {K : PySem.W.Frag} {H : Hp} {vs : List V} {ds : List D} {i : Int} {d : D} (r : RpAll K H vs ds) (h : atI ds i = some d) : ∃ v, atI vs i = some v ∧ Rp K H v d := by
  unfold atI at h ⊢
  rw [r.length]
  cases e : ixN ds.length i with
  | none => rw [e] at h; cases h
  | some j =>
    rw [e] at h
    exact r.get' h
theorem r2_ix {K : PySem.W.Frag} {Φ : D → Prop} {d f : D} {i : Int} (h : ixD d i = some f) (k : Φ f) : R2D K (rIx K) d (.int i) Φ := fun O H x y Q rx ry _ q => by
  cases ry
  cases rx with
  | lst hs r =>
    obtain ⟨v, h1, h2⟩ := atI_rp r h
    exact .inl ⟨_, _, i, v, rfl, rfl, .inl (same_rd same_hid hs), h1, q v f H (Same.refl _) h2 k⟩
  | tup hs r =>
    obtain ⟨v, h1, h2⟩ := atI_rp r h
    exact .inr (.inl ⟨_, _, i, v, rfl, rfl, same_t same_hid hs, h1, q v f H (Same.refl _) h2 k⟩)
  | str z =>
    have h' : (if z.length ≤ sizeLine then (atI z.cps.toList i).map fun c => D.str ⟨#[c]⟩ else none) = some f := h
    by_cases hz : z.length ≤ sizeLine
    · rw [if_pos hz] at h'
      cases e : atI z.cps.toList i with
      | none => rw [e] at h'; cases h'
      | some c =>
        rw [e] at h'
        refine .inr (.inr ⟨z, i, c, rfl, rfl, hz, e, q _ f H (Same.refl _) ?_ k⟩)
        rw [← Option.some.inj h']
        exact .str _
    · rw [if_neg hz] at h'; cases h'
  | _ => cases h
theorem ixD_nat {xs : List D} {j : Nat} {d : D} (h : xs[j]? = some d) : ixD (.lst xs) (j : Int) = some d := atI_nat h
theorem ixD_natT {xs : List D} {j : Nat} {d : D} (h : xs[j]? = some d) : ixD (.tup xs) (j : Int) = some d := atI_nat h
section
variable {c : Ctx} {ρ : List SD} {n : Nat} {ta tb te : TE} {t u : TT} {as : TA} {Φ : Nat → D → Prop} {Ψ : Out} {ts us : TS}
theorem wo_none {Φ : Nat → Option Int → Prop} (k : Φ n none) : WO c tNoPart ρ n Φ := fun P L σ H Q E q => q none n H (Same.refl _) E.bag k
theorem wo_some {Φ : Nat → Option Int → Prop} (h : WE c te ρ n fun n1 d => ∃ i, d = .int i ∧ Φ n1 (some i)) : WO c (tPart te) ρ n Φ := fun P L σ H Q E q => by
  refine h P L σ H _ E fun x d n1 H1 s1 j1 r1 ⟨i, e, k⟩ => ?_
  subst e
  cases r1
  exact ⟨i, rfl, q (some i) n1 H1 s1 j1 k⟩
def rSlS3 (K : PySem.W.Frag) : V → Option Int → Option Int → Hp → VK → Prop := fun x lo hi H Q => rSlL K x lo hi H Q ∨ rSlA K x lo hi H Q ∨ rSlS x lo hi H Q
theorem sl_seq {X : Cx} : SlR X (rSlS3 X.K) := by
  intro pins s σ H x v vl vu lo hi sl Q I rx hs pl pu h
  rcases h with h | h | h
  · exact sl_list pins s σ H x v vl vu lo hi sl Q I rx hs pl pu h
  · exact sl_tupA pins s σ H x v vl vu lo hi sl Q I rx hs pl pu h
  · exact sl_str pins s σ H x v vl vu lo hi sl Q I rx hs pl pu h
def cutD (xs : List D) (lo hi : Option Int) : List D := (xs.drop (HT.sIx xs.length 0 lo)).take (HT.sIx xs.length xs.length hi - HT.sIx xs.length 0 lo)
def slD (d : D) (lo hi : Option Int) : Option D := match d with
  | .lst xs => some (.lst (cutD xs lo hi))
  | .tup xs => some (.tup (cutD xs lo hi))
  | .str z => if z.length ≤ sizeLine then some (.str (cutS z lo hi)) else none
  | _ => none
theorem RpAll.cut {K : PySem.W.Frag} {H : Hp} {vs : List V} {ds : List D} (r : RpAll K H vs ds) (lo hi : Option Int) : RpAll K H (cutV vs lo hi) (cutD ds lo hi) := by
  unfold cutV cutD
  rw [r.length]
  exact (r.drop _).take _
theorem cutD_whole {xs : List D} {lo hi : Option Int} (h : HT.sIx xs.length 0 lo = 0 ∧ HT.sIx xs.length xs.length hi = xs.length) : cutD xs lo hi = xs := by
  unfold cutD
  rw [h.1, h.2]
  simp
theorem we_sl {tl th : TO} (h : WE c te ρ n fun n1 d => WO c tl ρ n1 fun n2 lo => WO c th ρ n2 fun n3 hi => ∃ f, slD d lo hi = some f ∧ Φ n3 f) : WE c (tSl (rSlS3 c.K) te tl th) ρ n Φ := fun P L σ H Q E q => by
  refine h P L σ H _ E fun x d n1 H1 s1 j1 r1 h1 => ?_
  have E1 := E.step s1 j1
  refine h1 P L σ H1 _ E1 fun lo n2 H2 s2 j2 h2 => ?_
  have E2 := E1.step s2 j2
  refine h2 P L σ H2 _ E2 fun hi n3 H3 s3 j3 ⟨f, e, k⟩ => ?_
  have E3 := E2.step s3 j3
  have r3 := (r1.mono (E1.sameLO s2)).mono (E2.sameLO s3)
  have s := (s1.trans s2).trans s3
  cases r3 with
  | @lst a xs ds hs r =>
    cases e
    refine .inl ⟨_, _, rfl, .inl (same_rd same_hid hs), fun p hp => ?_⟩
    have z := E3.newT (o := .lst (cutV xs lo hi)) hp
    exact q _ _ n3 _ (s.trans z.1) z.2.1 (.lst (.inl (hid_at z.2.2)) ((r.cut lo hi).mono (rp_upd (K := c.K) hp))) k
  | @tup a xs ds hs r =>
    cases e
    refine .inr (.inl ⟨_, _, rfl, same_t same_hid hs, fun hw => ?_, fun hw p hp => ?_⟩)
    · rw [r.length] at hw
      rw [cutD_whole hw] at k
      exact q _ _ n3 _ s j3 (.tup hs r) k
    · have z := E3.newT (o := .tup (cutV xs lo hi)) hp
      exact q _ _ n3 _ (s.trans z.1) z.2.1 (.tup (.inl (.inl (hid_at z.2.2))) ((r.cut lo hi).mono (rp_upd (K := c.K) hp))) k
  | str z =>
    have e' : (if z.length ≤ sizeLine then some (D.str (cutS z lo hi)) else none) = some f := e
    by_cases hz : z.length ≤ sizeLine
    · rw [if_pos hz] at e'
      cases e'
      exact .inr (.inr ⟨z, rfl, hz, q _ _ n3 _ s j3 (.str _) k⟩)
    · rw [if_neg hz] at e'; cases e'
  | _ => cases e
end

/-! ### + -/
section
variable {X : Cx}
theorem inv_rdL {pins : List (Addr × Obj)} {σ : St} {H : Hp} {s : Shared} {a : Addr} {xs : List V} (I : Inv X pins σ H s) (h : Rd H a (.lst xs)) : ∃ (its : List Value) (n : Nat), Vals xs its ∧ s.heap.get? a = some { cls := .type "list", data := .seq its.toArray n } ∧ xs.length ≤ sizeLine := by
  obtain ⟨z, its, n, r, e⟩ := h.ok I.hok
  exact ⟨its, n, r, e, z⟩
/-- list + list, whatever is read -/
def rCatL : R2 := fun x y H Q => ∃ l b xs zs, x = .ref l ∧ y = .ref b ∧ Rd H l (.lst xs) ∧ Rd H b (.lst zs) ∧ xs.length + zs.length ≤ sizeLine ∧ ∀ p, H p = none → Q (.ref p) (upd H p (.lst (xs ++ zs)))
theorem op_catL : OpR X (binaryOp .Add) rCatL := by
  intro pins s σ H x y v u Q I rx ry h
  obtain ⟨l, b, xs, zs, rfl, rfl, hH, hB, hz, q⟩ := h
  cases rx
  cases ry
  obtain ⟨its, n, r, e, z⟩ := inv_rdL I hH
  obtain ⟨its2, n2, r2, e2, z2⟩ := inv_rdL I hB
  have h1 := r.length
  have h2 := r2.length
  refine PySem.P.add_list e e2 ?_ (by rw [List.size_toArray, List.size_toArray]; omega)
  have ea : its.toArray ++ its2.toArray = (its ++ its2).toArray := by simp
  rw [ea]
  exact ⟨.ref _, _, I.lnew (t' := s.toks) (r.append r2) (by rw [List.length_append]; omega), rfl, q _ I.fresh⟩
def rAddD (K : PySem.W.Frag) : R2 := fun x y H Q => rI0 (fun i j => .int (i + j)) x y H Q ∨ (∃ i j, x = .str i ∧ y = .str j ∧ i.length + j.length ≤ sizeLine ∧ Q (.str (i ++ j)) H) ∨ rCatA K x y H Q ∨ rCatL x y H Q
theorem op_addD : OpR X (binaryOp .Add) (rAddD X.K) := op_add.or (op_add_str.or (op_catA.or op_catL))
end
def addD : D → D → Option D
  | .int i, .int j => some (.int (i + j))
  | .str s, .str t => if s.length + t.length ≤ sizeLine then some (.str (s ++ t)) else none
  | .lst a, .lst b => if a.length + b.length ≤ sizeLine then some (.lst (a ++ b)) else none
  | .tup a, .tup b => if a.length + b.length ≤ sizeLine then some (.tup (a ++ b)) else none
  | _, _ => none
theorem r2_add {K : PySem.W.Frag} {Φ : D → Prop} {d e f : D} (h : addD d e = some f) (k : Φ f) : R2D K (rAddD K) d e Φ := fun O H x y Q rx ry no q => by
  cases rx with
  | int i =>
    cases ry with
    | int j => cases h; exact .inl ⟨i, j, rfl, rfl, q _ _ H (Same.refl _) (.int _) k⟩
    | _ => cases h
  | str i =>
    cases ry with
    | str j =>
      have h' : (if i.length + j.length ≤ sizeLine then some (D.str (i ++ j)) else none) = some f := h
      by_cases hz : i.length + j.length ≤ sizeLine
      · rw [if_pos hz] at h'
        cases h'
        exact .inr (.inl ⟨i, j, rfl, rfl, hz, q _ _ H (Same.refl _) (.str _) k⟩)
      · rw [if_neg hz] at h'; cases h'
    | _ => cases h
  | @lst a xs ds hs r =>
    cases ry with
    | @lst b ys es hs2 r2 =>
      have h' : (if ds.length + es.length ≤ sizeLine then some (D.lst (ds ++ es)) else none) = some f := h
      by_cases hz : ds.length + es.length ≤ sizeLine
      · rw [if_pos hz] at h'
        cases h'
        refine .inr (.inr (.inr ⟨a, b, xs, ys, rfl, rfl, same_rd same_hid hs, same_rd same_hid hs2, by rw [r.length, r2.length]; exact hz, fun p hp => ?_⟩))
        exact q _ _ _ (same_upd_new hp) (.lst (.inl (hid_at (no p hp))) ((r.append r2).mono (rp_upd (K := K) hp))) k
      · rw [if_neg hz] at h'; cases h'
    | _ => cases h
  | @tup a xs ds hs r =>
    cases ry with
    | @tup b ys es hs2 r2 =>
      have h' : (if ds.length + es.length ≤ sizeLine then some (D.tup (ds ++ es)) else none) = some f := h
      by_cases hz : ds.length + es.length ≤ sizeLine
      · rw [if_pos hz] at h'
        cases h'
        refine .inr (.inr (.inl ⟨a, b, xs, ys, rfl, rfl, same_t same_hid hs, same_t same_hid hs2, by rw [r.length, r2.length]; exact hz, fun e => ?_, fun e1 e2 => ?_, fun _ _ p hp => ?_⟩))
        · subst e
          cases r
          exact q _ _ H (Same.refl _) (.tup hs2 r2) k
        · subst e2
          cases r2
          rw [List.append_nil] at k
          exact q _ _ H (Same.refl _) (.tup hs r) k
        · exact q _ _ _ (same_upd_new hp) (.tup (.inl (.inl (hid_at (no p hp)))) ((r.append r2).mono (rp_upd (K := K) hp))) k
      · rw [if_neg hz] at h'; cases h'
    | _ => cases h
  | _ => cases h
end L3
/-! L3e: calls of built-ins over data; a def's promise over data. -/
namespace L3
open PySem L2

/-! ### len, list, tuple, int, abs -/
section
variable {X : Cx}
def rLenD (K : PySem.W.Frag) : List V → Hp → VK → Prop := fun xs H Q => (∃ p ys, xs = [.ref p] ∧ (SqL K H p ys ∨ SqT K H p ys) ∧ Q (.int ys.length) H) ∨ ∃ z, xs = [.str z] ∧ z.length ≤ sizeLine ∧ Q (.int z.length) H
theorem call_lenX : CallR X (.builtin "len") (rLenD X.K) := call_len_seq.or call_len_str
def rListD (K : PySem.W.Frag) : List V → Hp → VK → Prop := fun xs H Q => ∃ p ys, xs = [.ref p] ∧ (SqL K H p ys ∨ SqT K H p ys) ∧ ∀ l, H l = none → Q (.ref l) (upd H l (.lst ys))
theorem call_listX : CallR X (.type "list") (rListD X.K) := call_list_of
def rTupD (K : PySem.W.Frag) : List V → Hp → VK → Prop := fun xs H Q => ∃ p ys, xs = [.ref p] ∧ ((SqL K H p ys ∧ ∀ l, H l = none → Q (.ref l) (upd H l (.tup ys))) ∨ (SqT K H p ys ∧ Q (.ref p) H))
theorem call_tupX : CallR X (.type "tuple") (rTupD X.K) := call_tuple_of
def rIntD : List V → Hp → VK → Prop := fun xs H Q => (∃ i, xs = [.int i] ∧ Q (.int i) H) ∨ ∃ k, xs = [.bl k] ∧ Q (.int (if k then 1 else 0)) H
theorem call_intX : CallR X (.type "int") rIntD := call_int1
def rAbsD : List V → Hp → VK → Prop := fun xs H Q => ∃ i, xs = [.int i] ∧ Q (.int (if i < 0 then -i else i)) H
theorem call_absX : CallR X (.builtin "abs") rAbsD := call_abs
end
theorem RpAll.one {K : PySem.W.Frag} {H : Hp} {vs : List V} {d : D} (r : RpAll K H vs [d]) : ∃ v, vs = [v] ∧ Rp K H v d := by
  cases r with
  | cons h t => cases t; exact ⟨_, rfl, h⟩
theorem RpAll.two {K : PySem.W.Frag} {H : Hp} {vs : List V} {d e : D} (r : RpAll K H vs [d, e]) : ∃ v u, vs = [v, u] ∧ Rp K H v d ∧ Rp K H u e := by
  cases r with
  | cons h t =>
    obtain ⟨u, e, h2⟩ := t.one
    exact ⟨_, u, by rw [e], h, h2⟩
section
variable {K : PySem.W.Frag} {Φ : D → Prop}
def lenD : D → Option Int
  | .lst xs => some xs.length
  | .tup xs => some xs.length
  | .str z => if z.length ≤ sizeLine then some z.length else none
  | _ => none
theorem rc_len {d : D} {m : Int} (h : lenD d = some m) (k : Φ (.int m)) : RCD K (rLenD K) [d] Φ := fun O H xs Q rs no q => by
  obtain ⟨v, rfl, r⟩ := rs.one
  cases r with
  | @lst a ys ds hs ha =>
    refine .inl ⟨a, ys, rfl, .inl (.inl (same_rd same_hid hs)), q _ _ H (Same.refl _) (.int _) ?_⟩
    rw [ha.length, Option.some.inj (show some ((ds.length : Nat) : Int) = some m from h)]
    exact k
  | @tup a ys ds hs ha =>
    refine .inl ⟨a, ys, rfl, .inr (same_t same_hid hs), q _ _ H (Same.refl _) (.int _) ?_⟩
    rw [ha.length, Option.some.inj (show some ((ds.length : Nat) : Int) = some m from h)]
    exact k
  | str z =>
    have h' : (if z.length ≤ sizeLine then some ((z.length : Nat) : Int) else none) = some m := h
    by_cases hz : z.length ≤ sizeLine
    · rw [if_pos hz] at h'
      refine .inr ⟨z, rfl, hz, q _ _ H (Same.refl _) (.int _) ?_⟩
      rw [Option.some.inj h']
      exact k
    · rw [if_neg hz] at h'; cases h'
  | _ => cases h
theorem rc_list {d : D} {ds : List D} (h : seqD d = some ds) (k : Φ (.lst ds)) : RCD K (rListD K) [d] Φ := fun O H xs Q rs no q => by
  obtain ⟨v, rfl, r⟩ := rs.one
  cases r with
  | @lst a ys ds hs ha =>
    cases h
    exact ⟨a, ys, rfl, .inl (.inl (same_rd same_hid hs)), fun l hl => q _ _ _ (same_upd_new hl) (.lst (.inl (hid_at (no l hl))) (ha.mono (rp_upd (K := K) hl))) k⟩
  | @tup a ys ds hs ha =>
    cases h
    exact ⟨a, ys, rfl, .inr (same_t same_hid hs), fun l hl => q _ _ _ (same_upd_new hl) (.lst (.inl (hid_at (no l hl))) (ha.mono (rp_upd (K := K) hl))) k⟩
  | _ => cases h
theorem rc_tup {d : D} {ds : List D} (h : seqD d = some ds) (k : Φ (.tup ds)) : RCD K (rTupD K) [d] Φ := fun O H xs Q rs no q => by
  obtain ⟨v, rfl, r⟩ := rs.one
  cases r with
  | @lst a ys ds hs ha =>
    cases h
    exact ⟨a, ys, rfl, .inl ⟨.inl (same_rd same_hid hs), fun l hl => q _ _ _ (same_upd_new hl) (.tup (.inl (.inl (hid_at (no l hl)))) (ha.mono (rp_upd (K := K) hl))) k⟩⟩
  | @tup a ys ds hs ha =>
    cases h
    exact ⟨a, ys, rfl, .inr ⟨same_t same_hid hs, q _ _ H (Same.refl _) (.tup hs ha) k⟩⟩
  | _ => cases h
theorem rc_int {i : Int} (k : Φ (.int i)) : RCD K rIntD [.int i] Φ := fun O H xs Q rs no q => by
  obtain ⟨v, rfl, r⟩ := rs.one
  cases r
  exact .inl ⟨i, rfl, q _ _ H (Same.refl _) (.int _) k⟩
theorem rc_intB {b : Bool} (k : Φ (.int (if b then 1 else 0))) : RCD K rIntD [.bl b] Φ := fun O H xs Q rs no q => by
  obtain ⟨v, rfl, r⟩ := rs.one
  cases r
  exact .inr ⟨b, rfl, q _ _ H (Same.refl _) (.int _) k⟩
theorem rc_abs {i : Int} (k : Φ (.int (if i < 0 then -i else i))) : RCD K rAbsD [.int i] Φ := fun O H xs Q rs no q => by
  obtain ⟨v, rfl, r⟩ := rs.one
  cases r
  exact ⟨i, rfl, q _ _ H (Same.refl _) (.int _) k⟩
/-- sum, max, min of a list of ints; any, all of a list of truths -/
theorem rc_sum {ns : List Int} (k : Φ (.int ns.sum)) : RCD K (rSum K) [.lst (ns.map D.int)] Φ := fun O H xs Q rs no q => by
  obtain ⟨v, rfl, r⟩ := rs.one
  cases r with
  | @lst a ys ds hs ha =>
    have e := ha.ints
    subst e
    exact ⟨a, ns, rfl, .inl (same_rd same_hid hs), q _ _ H (Same.refl _) (.int _) k⟩
theorem rc_max {ns : List Int} (hn : 0 < ns.length) (k : ∀ m, m ∈ ns → (∀ y ∈ ns, y ≤ m) → Φ (.int m)) : RCD K (rMax K) [.lst (ns.map D.int)] Φ := fun O H xs Q rs no q => by
  obtain ⟨v, rfl, r⟩ := rs.one
  cases r with
  | @lst a ys ds hs ha =>
    have e := ha.ints
    subst e
    exact ⟨a, ns, rfl, .inl (same_rd same_hid hs), hn, fun m h1 h2 => q _ _ H (Same.refl _) (.int _) (k m h1 h2)⟩
theorem rc_min {ns : List Int} (hn : 0 < ns.length) (k : ∀ m, m ∈ ns → (∀ y ∈ ns, m ≤ y) → Φ (.int m)) : RCD K (rMin K) [.lst (ns.map D.int)] Φ := fun O H xs Q rs no q => by
  obtain ⟨v, rfl, r⟩ := rs.one
  cases r with
  | @lst a ys ds hs ha =>
    have e := ha.ints
    subst e
    exact ⟨a, ns, rfl, .inl (same_rd same_hid hs), hn, fun m h1 h2 => q _ _ H (Same.refl _) (.int _) (k m h1 h2)⟩
theorem RpAll.bls {H : Hp} : ∀ {vs : List V} {bs : List Bool}, RpAll K H vs (bs.map D.bl) → vs = bs.map V.bl
  | _, [], h => by cases h; rfl
  | _, n :: ns, h => by
    cases h with
    | cons h r => cases h; rw [RpAll.bls r]; rfl
theorem rc_any {bs : List Bool} (k : Φ (.bl (bs.any id))) : RCD K (rAny K) [.lst (bs.map D.bl)] Φ := fun O H xs Q rs no q => by
  obtain ⟨v, rfl, r⟩ := rs.one
  cases r with
  | @lst a ys ds hs ha =>
    have e := ha.bls
    subst e
    exact ⟨a, bs, rfl, .inl (same_rd same_hid hs), q _ _ H (Same.refl _) (.bl _) k⟩
theorem rc_all {bs : List Bool} (k : Φ (.bl (bs.all id))) : RCD K (rAll K) [.lst (bs.map D.bl)] Φ := fun O H xs Q rs no q => by
  obtain ⟨v, rfl, r⟩ := rs.one
  cases r with
  | @lst a ys ds hs ha =>
    have e := ha.bls
    subst e
    exact ⟨a, bs, rfl, .inl (same_rd same_hid hs), q _ _ H (Same.refl _) (.bl _) k⟩

/-! ### isinstance with built-in types -/
def tyD : D → Option String
  | .non => some "NoneType"
  | .bl _ => some "bool"
  | .int _ => some "int"
  | .str _ => some "str"
  | .lst _ => some "list"
  | .tup _ => some "tuple"
  | .dct _ => some "dict"
  | _ => none
theorem tyD_X {H : Hp} {O : List Addr} {v : V} {d : D} {T : String} (r : Rp K (hid O H) v d) (h : tyD d = some T) : TyX K H v (.type T) := by
  cases r with
  | non => cases h; exact .base .non
  | bl b => cases h; exact .base (.bl b)
  | int i => cases h; exact .base (.int i)
  | str x => cases h; exact .base (.str x)
  | lst hs ha =>
    cases h
    rcases same_rd same_hid hs with e | ⟨o, e⟩
    · exact .base (.lst e)
    · exact .base (.frz e)
  | tup hs ha =>
    cases h
    rcases same_t same_hid hs with (e | ⟨o, e⟩) | ⟨o, its, n, hk, hc, _⟩
    · exact .base (.tup e)
    · exact .fTuple e
    · exact .kTuple hk hc
  | @dct p ys _ hs rk =>
    cases h
    rcases same_rd same_hid hs with e | ⟨o, e⟩
    · exact .base (.dK e)
    · exact .fDict e
  | _ => cases h
theorem rc_isi {d : D} {T U : String} {b : Bool} (h : tyD d = some T) (hk : kitB T U = some b) (k : Φ (.bl b)) : RCD K (rIsi K) [d, .ty U] Φ := fun O H xs Q rs no q => by
  obtain ⟨v, u, rfl, r1, r2⟩ := rs.two
  cases r2
  exact ⟨v, .ty U, .type T, .type U, b, rfl, .ty U, tyD_X r1 h, kit_ty hk, q _ _ H (Same.refl _) (.bl _) k⟩
end

/-! ### sorted of data -/
section
variable {X : Cx}
abbrev LeD : D → D → Bool := PySem.W.dataLe false dpy
def sortD (ds : List D) : List D := ds.mergeSort LeD
def rSortD (K : PySem.W.Frag) : List V → Hp → VK → Prop := fun vs H Q => ∃ (O : List Addr) (v : V) (ds : List D), vs = [v] ∧ Rp K (hid O H) v (.lst ds) ∧ plainAll ds = true ∧ PySem.W.AllAlike (ds.map dpy) ∧ PySem.W.Sortable (ds.map dpy) ∧ ds.length ≤ sizeLine ∧
  (∀ d ∈ ds, (dpy d).depth ≤ 50) ∧ ∀ l ys, H l = none → RpAll K (hid O H) ys (sortD ds) → Q (.ref l) (upd H l (.lst ys))
theorem plainAll_mem : ∀ {ds : List D} {d : D}, plainAll ds = true → d ∈ ds → plain d = true
  | e :: ds, d, h, hd => by
    have h' : (plain e && plainAll ds) = true := h
    rw [Bool.and_eq_true] at h'
    rcases List.mem_cons.mp hd with q | q
    · rw [q]; exact h'.1
    · exact plainAll_mem h'.2 q
theorem each_rp {K : PySem.W.Frag} {H : Hp} : ∀ {vs : List V} {us : List Value} {ds : List D}, Vals vs us → RpAll K H vs ds → PySem.W.EachIs (fun (u : Value) (d : D) => ∃ v, RelV v u ∧ Rp K H v d) us ds
  | _, _, _, .nil, .nil => .nil
  | _, _, _, .cons r t, .cons h s => .cons ⟨_, r, h⟩ (each_rp t s)
theorem rp_each {K : PySem.W.Frag} {H : Hp} : ∀ {us : List Value} {ds : List D}, PySem.W.EachIs (fun (u : Value) (d : D) => ∃ v, RelV v u ∧ Rp K H v d) us ds → ∃ vs, Vals vs us ∧ RpAll K H vs ds
  | _, _, .nil => ⟨[], .nil, .nil⟩
  | _, _, .cons ⟨v, r, h⟩ t => by
    obtain ⟨vs, h1, h2⟩ := rp_each t
    exact ⟨v :: vs, .cons r h1, .cons h h2⟩
theorem cr_sortD (hu : X.A.units + 64 < cLine) : CallR X (.builtin "sorted") (rSortD X.K) := by
  intro pins s σ H vs us Q I r h
  obtain ⟨O, v, ds, rfl, rv, hp, hal, hk, hL, hdep, q⟩ := h
  cases rv with
  | @lst a xs _ hs ha =>
    rw [Vals.ref1 r]
    obtain ⟨its, n, rv, e, hz⟩ := inv_rdL I (same_rd same_hid hs)
    have el := each_rp rv ha
    have er : PySem.W.EachIs (fun (u : Value) (d : D) => ∃ as, Reads s.heap u (dpy d) as) its ds := by
      refine (PySem.W.each_mem el).mono ?_
      rintro u d ⟨⟨v, r1, r2⟩, hd⟩
      exact Dp.reads I (dpy d) v u (Dp.mono same_hid (r2.dp (plainAll_mem hp hd))) r1
    refine PySem.W.sorted_data (s := s) ⟨_, e, rfl, n, rfl⟩ el er hal hk hL (fun d hd => by have := hdep d hd; omega) fun out ho eo => ?_
    obtain ⟨ys, h1, h2⟩ := rp_each eo
    obtain ⟨ep, he'⟩ := PyProof.Rows.sortedAll_at s.heap its out.toArray
    have hlen : ys.length ≤ sizeLine := by rw [h1.length, ho]; exact hL
    exact ⟨.ref _, upd H (s.heap.objs.size + 1) (.lst ys), I.laid (t' := s.toks) (fun _ _ => PyProof.Rows.sortedAll_old) (Nat.le_succ _) ⟨hlen, out, ep, h1, he'⟩, rfl, q _ ys (I.hok.fresh (Nat.le_succ _)) h2⟩
end
theorem rc_sort {K : PySem.W.Frag} {Φ : D → Prop} {ds : List D} (hp : plainAll ds = true) (hal : PySem.W.AllAlike (ds.map dpy)) (hk : PySem.W.Sortable (ds.map dpy)) (hL : ds.length ≤ sizeLine) (hd : ∀ d ∈ ds, (dpy d).depth ≤ 50) (k : Φ (.lst (sortD ds))) : RCD K (rSortD K) [.lst ds] Φ := fun O H xs Q rs no q => by
  obtain ⟨v, rfl, r⟩ := rs.one
  exact ⟨O, v, ds, rfl, r, hp, hal, hk, hL, hd, fun l ys hl h => q _ _ _ (same_upd_new hl) (.lst (.inl (hid_at (no l hl))) (h.mono (rp_upd (K := K) hl))) k⟩
end L3
/-! L3f: a def's promise over data; methods of own lists. -/
namespace L3
open PySem L2

/-- the slots at a def's entry -/
def rho (N : List Str) (ds : List D) : List SD := ds.map SD.val ++ List.replicate (N.length - ds.length) .un
theorem slots_un {pr : Program} {wd : World} {K : PySem.W.Frag} {O : List Addr} {H : Hp} : ∀ m : Nat, Slots pr wd K O H (List.replicate m none) (List.replicate m .un) []
  | 0 => .nil
  | m + 1 => .un (slots_un m)
theorem slots_start {pr : Program} {wd : World} {K : PySem.W.Frag} {O : List Addr} {H : Hp} {m : Nat} : ∀ {vs : List V} {ds : List D}, RpAll K (hid O H) vs ds → Slots pr wd K O H (vs.map some ++ List.replicate m none) (ds.map SD.val ++ List.replicate m .un) []
  | _, _, .nil => slots_un m
  | _, _, .cons h r => .val h (slots_start r)
section
variable {P : Program} {w : World} {K : PySem.W.Frag} {mg : Str → Option Value} {base : Heap}
/-- THE RULE: a def by its body, over data -/
theorem fn_D {x qual : Str} {st : Stmt} {f : Addr} {fd : FuncData} {N ps : List Str} {k : Nat} {S : Spec} (F : Fun K x qual st f fd) (sc : FnScope N ps (defScope st))
    (len : ∀ bag n ds Φ, S bag n ds Φ → ds.length = ps.length)
    (body : ∀ (cdv : Value) (A : Around) (outer : List PySem.Env) (s : Shared) (H : Hp) (E : XK) (O : List Addr) (bag : Option (Addr × Addr)) (n : Nat) (ds : List D) (Φ : Nat → D → Prop), Room k (A.deeper (PyProof.Rows.envOfC qual (defScope st) s.heap.objs.size f cdv)) → S bag n ds Φ →
      ∃ t, PSs (cxOf CX0 P w K mg base N qual (defScope st) f cdv A outer s H E).nox (defBody st) t ∧ WS ⟨P, w, K, O, bag, H⟩ t (rho N ds) n { nx := fun n' _ => Φ n' .non, rt := Φ }) :
    FnOk P w K mg base CX0 (k + 1) f fd ps (spD K S) := by
  refine F.ok sc (fun vs H Q E h => ?_) (fun cdv A outer s H vs Q E hr h => ?_)
  · obtain ⟨O, bag, n, ds, Φ, _, _, r, hS, _⟩ := h
    rw [r.length]; exact len bag n ds Φ hS
  · obtain ⟨O, bag, n, ds, Φ, hb, hO, r, hS, q⟩ := h
    obtain ⟨t, ht, W⟩ := body cdv A outer s H E O bag n ds Φ hr hS
    refine ⟨t, ht, W (fun _ => none) [] _ H _ ?_ ?_⟩
    · have e : L2.start N vs = vs.map some ++ List.replicate (N.length - ds.length) none := by unfold L2.start; rw [r.length]
      exact { nd := List.nodup_nil, fresh := (fun l hl => nomatch hl), slots := ⟨[], by rw [e]; exact slots_start r, List.Sublist.refl _⟩, lst := (fun l hl => nomatch hl), bag := fun b q e => (hb b q e).1, base := Same.refl _,
              pers := (fun _ _ e => nomatch e), bO := fun b q e => (hb b q e).2, al := hO }
    · exact { nx := fun L n' H' σ ρ E k => q .non .non n' H' E.base (fun b q e => E.bag b q e) .non k,
              rt := fun v d n' H' s j r k => q v d n' H' s j r k, bk := fun _ _ _ _ _ _ k => k.elim, ct := fun _ _ _ _ _ _ k => k.elim }
end

/-! ### an own list's methods -/
section
variable {c : Ctx} {ρ : List SD} {n : Nat} {ta tb te : TE} {t u : TT} {as : TA} {Φ : Nat → D → Prop} {Ψ : Out} {ts us : TS}
/-- at an own slot the list is another one -/
theorem Slots.own_at {pr : Program} {wd : World} {K : PySem.W.Frag} {O : List Addr} {H : Hp} {ds es : List D} : ∀ {σ : List (Option V)} {ρ : List SD} {L : List Addr} {i : Nat}, Slots pr wd K O H σ ρ L → L.Nodup → ρ[i]? = some (.own ds) → ∃ l xs, σ[i]? = some (some (.ref l)) ∧ l ∈ L ∧ H l = some (.lst xs) ∧ RpAll K (hid O H) xs ds ∧
    ∀ (ys : List V), RpAll K (hid O H) ys es → hid O (upd H l (.lst ys)) = hid O H → Slots pr wd K O (upd H l (.lst ys)) σ (ρ.set i (.own es)) L
  | _, _, _, _, .nil, _, e => by simp at e
  | _, _, _, 0, .un _, _, e => by simp at e
  | _, _, _, i + 1, .un s, nd, e => by
    obtain ⟨l, xs, h1, h2, h3, h4, h5⟩ := Slots.own_at (i := i) s nd (by simpa using e)
    exact ⟨l, xs, by simpa using h1, h2, h3, h4, fun ys a b => .un (h5 ys a b)⟩
  | _, _, _, 0, .val _ _, _, e => by simp at e
  | _, _, _, i + 1, .val r s, nd, e => by
    obtain ⟨l, xs, h1, h2, h3, h4, h5⟩ := Slots.own_at (i := i) s nd (by simpa using e)
    exact ⟨l, xs, by simpa using h1, h2, h3, h4, fun ys a b => .val (by rw [b]; exact r) (h5 ys a b)⟩
  | _, _, _, 0, .own h r s, nd, e => by
    simp at e
    subst e
    exact ⟨_, _, rfl, List.mem_cons_self, h, r, fun ys a b => .own upd_same (by rw [b]; exact a) (s.move (fun l hl => upd_ne fun e => (List.nodup_cons.mp nd).1 (by rw [← e]; exact hl)) (by rw [b]; exact Same.refl _))⟩
  | _, _, _, 0, .dic _ _, _, e => by simp at e
  | _, _, _, 0, .dk _ _, _, e => by simp at e
  | _, _, _, 0, .tw _ _, _, e => by simp at e
  | _, _, _, i + 1, .dic h s, nd, e => by
    obtain ⟨l, xs, h1, h2, h3, h4, h5⟩ := Slots.own_at (i := i) s (List.nodup_cons.mp nd).2 (by simpa using e)
    exact ⟨l, xs, by simpa using h1, List.mem_cons_of_mem _ h2, h3, h4, fun ys a b => .dic (h.move (upd_ne fun e => (List.nodup_cons.mp nd).1 (by rw [e]; exact h2)) (by rw [b]; exact Same.refl _)) (h5 ys a b)⟩
  | _, _, _, i + 1, .dk h s, nd, e => by
    obtain ⟨l, xs, h1, h2, h3, h4, h5⟩ := Slots.own_at (i := i) s (List.nodup_cons.mp nd).2 (by simpa using e)
    exact ⟨l, xs, by simpa using h1, List.mem_cons_of_mem _ h2, h3, h4, fun ys a b => .dk (h.move (upd_ne fun e => (List.nodup_cons.mp nd).1 (by rw [e]; exact h2)) (by rw [b]; exact Same.refl _)) (h5 ys a b)⟩
  | _, _, _, i + 1, .tw h s, nd, e => by
    obtain ⟨l, xs, h1, h2, h3, h4, h5⟩ := Slots.own_at (i := i) s (List.nodup_cons.mp nd).2 (by simpa using e)
    exact ⟨l, xs, by simpa using h1, List.mem_cons_of_mem _ h2, h3, h4, fun ys a b => .tw (h.move (upd_ne fun e => (List.nodup_cons.mp nd).1 (by rw [e]; exact h2)) (by rw [b]; exact Same.refl _)) (h5 ys a b)⟩
  | _, _, _, i + 1, .own h r s, nd, e => by
    obtain ⟨l, xs, h1, h2, h3, h4, h5⟩ := Slots.own_at (i := i) s (List.nodup_cons.mp nd).2 (by simpa using e)
    exact ⟨l, xs, by simpa using h1, List.mem_cons_of_mem _ h2, h3, h4, fun ys a b => .own ((upd_ne fun e => (List.nodup_cons.mp nd).1 (by rw [e]; exact h2)).trans h) (by rw [b]; exact r) (h5 ys a b)⟩
  | _, _, _, 0, .ot _ _ _, _, e => by simp at e
  | _, _, _, i + 1, .ot h q s, nd, e => by
    subst q
    obtain ⟨l, xs, h1, h2, h3, h4, h5⟩ := Slots.own_at (i := i) s (List.nodup_append.mp nd).2.1 (by simpa using e)
    exact ⟨l, xs, by simpa using h1, List.mem_append_right _ h2, h3, h4, fun ys a b => .ot (OT.mv _ h (fun x hx => upd_ne fun e => (List.nodup_append.mp nd).2.2 x hx _ h2 e) fun v d r => by rw [b]; exact r) rfl (h5 ys a b)⟩
theorem Env.own_at {P : Hp} {L : List Addr} {n : Nat} {H : Hp} {σ : List (Option V)} {i : Nat} {ds : List D} (E : Env c P L n H σ ρ) (h : ρ[i]? = some (.own ds)) : ∃ l xs, σ[i]? = some (some (.ref l)) ∧ H l = some (.lst xs) ∧ RpAll c.K (hid (L ++ c.O) H) xs ds ∧
    ∀ (ys : List V) (es : List D), RpAll c.K (hid (L ++ c.O) H) ys es → Env c P L n (upd H l (.lst ys)) σ (ρ.set i (.own es)) ∧ Same (hid c.B c.H0) (hid c.B (upd H l (.lst ys))) := by
  obtain ⟨Ls, sl, sb⟩ := E.slots
  have nd := sb.nodup E.nd
  obtain ⟨l, xs, h1, h2, h3, h4, _⟩ := sl.own_at (es := ds) nd h
  have lL := sb.subset h2
  have hm : l ∈ L ++ c.O := List.mem_append_left _ lL
  have hO : l ∉ c.O := (E.fresh l lL).2
  refine ⟨l, xs, h1, h3, h4, fun ys es hy => ?_⟩
  have bs : Same (hid c.B c.H0) (hid c.B (upd H l (.lst ys))) := same_upd_old (E.fresh l lL).1 E.base
  refine ⟨?_, bs⟩
  obtain ⟨l', xs', g1, g2, g3, g4, g5⟩ := sl.own_at (es := es) nd h
  rw [h1] at g1
  cases g1
  exact { nd := E.nd, fresh := E.fresh, slots := ⟨Ls, g5 ys hy (hid_upd_in hm), sb⟩,
          lst := fun a ha => by
            by_cases e : a = l
            · exact ⟨_, by rw [e, upd_same]⟩
            · rw [upd_ne e]; exact E.lst a ha,
          bag := fun b q hb => (E.bag b q hb).move (fun o h => by rw [upd_ne fun e : b = l => hO (e ▸ (E.bO b q hb).1)]; exact h) fun o h => by rw [upd_ne fun e : q = l => hO (e ▸ (E.bO b q hb).2.1)]; exact h,
          base := bs, pers := by rw [hid_upd_in hm]; exact E.pers, bO := E.bO,
          al := fun o ho => by rw [upd_ne fun e : o = l => hO (e ▸ ho)]; exact E.al o ho }
/-- x.append(e) -/
theorem ws_append {i : Nat} {ds : List D} (h0 : ρ[i]? = some (.own ds)) (h : WE c te ρ n fun n1 d => ds.length < sizeLine ∧ Ψ.nx n1 (ρ.set i (.own (ds ++ [d])))) : WS c (tDrop (tBM c.K "list" rAppend (tVar i) (tCons te tNil))) ρ n Ψ := fun P L σ H Dn E A => by
  obtain ⟨l, xs, h1, h2, h3, h4⟩ := E.own_at h0
  refine ⟨.ref l, h1, .inl ⟨rfl, xs, .inl (.inl h2)⟩, ?_⟩
  refine h P L σ H _ E fun v d n1 H1 s1 j1 r1 ⟨hz, k⟩ => ?_
  have E1 := E.step s1 j1
  obtain ⟨l', ys, g1, g2, g3, g4⟩ := E1.own_at h0
  rw [h1] at g1
  cases g1
  refine ⟨l, ys, v, rfl, rfl, g2, by rw [g3.length]; exact hz, ?_⟩
  exact A.nx L n1 _ σ _ (g4 (ys ++ [v]) (ds ++ [d]) (g3.append (.cons r1 .nil))).1 k
end
end L3
/-! L3g: the operators one by one; loops with a state; short forms. -/
namespace L3
open PySem L2
section
variable {K : PySem.W.Frag} {Φ : D → Prop} {i j : Int}
theorem r2_lt (k : Φ (.bl (decide (i < j)))) : R2D K (rI0 fun i j => .bl (decide (i < j))) (.int i) (.int j) Φ := r2_int0 (h := fun i j => .bl (decide (i < j))) (fun _ _ _ => .bl _) k
theorem r2_le (k : Φ (.bl (decide (i ≤ j)))) : R2D K (rI0 fun i j => .bl (decide (i ≤ j))) (.int i) (.int j) Φ := r2_int0 (h := fun i j => .bl (decide (i ≤ j))) (fun _ _ _ => .bl _) k
theorem r2_gt (k : Φ (.bl (decide (j < i)))) : R2D K (rI0 fun i j => .bl (decide (j < i))) (.int i) (.int j) Φ := r2_int0 (h := fun i j => .bl (decide (j < i))) (fun _ _ _ => .bl _) k
theorem r2_ge (k : Φ (.bl (decide (j ≤ i)))) : R2D K (rI0 fun i j => .bl (decide (j ≤ i))) (.int i) (.int j) Φ := r2_int0 (h := fun i j => .bl (decide (j ≤ i))) (fun _ _ _ => .bl _) k
theorem r2_sub (k : Φ (.int (i - j))) : R2D K (rI0 fun i j => .int (i - j)) (.int i) (.int j) Φ := r2_int0 (h := fun i j => .int (i - j)) (fun _ _ _ => .int _) k
theorem r2_addI (k : Φ (.int (i + j))) : R2D K (rAddD K) (.int i) (.int j) Φ := r2_add rfl k
theorem r2_mulW (hc : CMulW i j) (k : Φ (.int (i * j))) : R2D K (rI CMulW fun i j => .int (i * j)) (.int i) (.int j) Φ := r2_int (h := fun i j => .int (i * j)) (fun _ _ _ => .int _) hc k
theorem r2_mul (hc : CMul i j) (k : Φ (.int (i * j))) : R2D K (rI CMul fun i j => .int (i * j)) (.int i) (.int j) Φ := r2_int (h := fun i j => .int (i * j)) (fun _ _ _ => .int _) hc k
theorem r2_mod (hc : 0 < j) (k : Φ (.int (i % j))) : R2D K (rI (fun _ j => 0 < j) fun i j => .int (i % j)) (.int i) (.int j) Φ := r2_int (h := fun i j => .int (i % j)) (fun _ _ _ => .int _) hc k
theorem r2_fdivW (hc : CDivW i j) (k : Φ (.int (i / j))) : R2D K (rI CDivW fun i j => .int (i / j)) (.int i) (.int j) Φ := r2_int (h := fun i j => .int (i / j)) (fun _ _ _ => .int _) hc k
theorem r2_fdiv (hc : CDiv i j) (k : Φ (.int (i / j))) : R2D K (rI CDiv fun i j => .int (i / j)) (.int i) (.int j) Φ := r2_int (h := fun i j => .int (i / j)) (fun _ _ _ => .int _) hc k
theorem r2_pow (hc : CPow i j) (k : Φ (.int (i ^ j.toNat))) : R2D K (rI CPow fun i j => .int (i ^ j.toNat)) (.int i) (.int j) Φ := r2_int (h := fun i j => .int (i ^ j.toNat)) (fun _ _ _ => .int _) hc k
theorem r2_cat {a b : List D} (h : a.length + b.length ≤ 16777216) (k : Φ (.lst (a ++ b))) : R2D K (rAddD K) (.lst a) (.lst b) Φ := r2_add (if_pos (by rw [sizeLine_eq]; exact h)) k
theorem r2_catT {a b : List D} (h : a.length + b.length ≤ 16777216) (k : Φ (.tup (a ++ b))) : R2D K (rAddD K) (.tup a) (.tup b) Φ := r2_add (if_pos (by rw [sizeLine_eq]; exact h)) k
theorem r2_catS {a b : Str} (h : a.length + b.length ≤ 16777216) (k : Φ (.str (a ++ b))) : R2D K (rAddD K) (.str a) (.str b) Φ := r2_add (if_pos (by rw [sizeLine_eq]; exact h)) k
theorem r2_isN {d : D} (k : Φ (.bl (isNon d))) : R2D K rIsN d .non Φ := fun O H x y Q rx ry _ q => by
  cases ry
  exact ⟨rfl, by rw [isNon_V rx]; exact q _ _ H (Same.refl _) (.bl _) k⟩
theorem r2_notN {d : D} (k : Φ (.bl (!isNon d))) : R2D K rNotN d .non Φ := fun O H x y Q rx ry _ q => by
  cases ry
  exact ⟨rfl, by rw [isNon_V rx]; exact q _ _ H (Same.refl _) (.bl _) k⟩
theorem r2_eqI (k : Φ (.bl (decide (i = j)))) : R2D K (rEqD K) (.int i) (.int j) Φ := r2_eqD rfl rfl (by
  have e : eqD (.int i) (.int j) = decide (i = j) := by
    show (i == j) = decide (i = j)
    by_cases h : i = j <;> simp [h]
  rw [e]; exact k)
theorem r2_neI (k : Φ (.bl (!decide (i = j)))) : R2D K (rNeD K) (.int i) (.int j) Φ := r2_neD rfl rfl (by
  have e : eqD (.int i) (.int j) = decide (i = j) := by
    show (i == j) = decide (i = j)
    by_cases h : i = j <;> simp [h]
  rw [e]; exact k)
end
section
variable {c : Ctx} {ρ : List SD} {n : Nat} {ta tb te : TE} {t u : TT} {as : TA} {Φ : Nat → D → Prop} {Ψ : Out} {ts us : TS}
theorem itT {b : Bool} {A B : Prop} (h : b = true) (k : A) : if b = true then A else B := by rw [if_pos h]; exact k
theorem itF {b : Bool} {A B : Prop} (h : b = false) (k : B) : if b = true then A else B := by rw [if_neg (by rw [h]; exact Bool.false_ne_true)]; exact k
/-- an item of a mapped list -/
theorem map_at {α β : Type} {f : α → β} {l : List α} {i : Nat} {d : β} (h : (l.map f)[i]? = some d) : ∃ a, l[i]? = some a ∧ d = f a ∧ a ∈ l ∧ l.take (i + 1) = l.take i ++ [a] := by
  rw [List.getElem?_map] at h
  cases e : l[i]? with
  | none => rw [e] at h; cases h
  | some a =>
    rw [e] at h
    exact ⟨a, rfl, (Option.some.inj h).symm, List.mem_of_getElem? e, by rw [List.take_succ, e]; rfl⟩
theorem decT {p : Prop} [Decidable p] {A B : Prop} (h : p) (k : A) : if decide p = true then A else B := by rw [if_pos (decide_eq_true h)]; exact k
theorem decF {p : Prop} [Decidable p] {A B : Prop} (h : ¬ p) (k : B) : if decide p = true then A else B := by rw [if_neg (by simpa using h)]; exact k
theorem dec2 {p : Prop} [Decidable p] {A B : Prop} (h1 : p → A) (h2 : ¬ p → B) : if decide p = true then A else B := by
  by_cases h : p
  · exact decT h (h1 h)
  · exact decF h (h2 h)
theorem decN {p : Prop} [Decidable p] {A B : Prop} (h1 : ¬ p → A) (h2 : p → B) : if (!decide p) = true then A else B := by
  by_cases h : p
  · rw [if_neg (by simpa using h)]; exact h2 h
  · rw [if_pos (by simpa using h)]; exact h1 h
theorem boo2 {b : Bool} {A B : Prop} (h1 : b = true → A) (h2 : b = false → B) : if b = true then A else B := by
  cases b
  · rw [if_neg Bool.false_ne_true]; exact h2 rfl
  · rw [if_pos rfl]; exact h1 rfl
theorem booN {b : Bool} {A B : Prop} (h1 : b = false → A) (h2 : b = true → B) : if (!b) = true then A else B := by
  cases b with
  | false => show (if true = true then A else B); rw [if_pos rfl]; exact h1 rfl
  | true => show (if false = true then A else B); rw [if_neg Bool.false_ne_true]; exact h2 rfl
theorem filt_all {α : Type} (l : List α) : l.filter (fun _ => true) = l := by simp
/-- a comprehension as map and filter: f the element, p the test, of data that the turn knows -/
theorem wf_map {wi : TI} {g : TG} {vs : List Nat} {Φ : Nat → List D → Prop} (f : D → D) (p : D → Bool)
    (h : WI c wi ρ n fun n1 ds => ds.length ≤ 1000000 ∧ (∀ d ∈ ds, ∀ m, WG c (RW vs) g d (wipeR ρ vs) m fun ρ2 => WT c t ρ2 m fun m2 b => m2 = m ∧ b = p d ∧ (b = true → WE c te ρ2 m fun m3 y => m3 = m ∧ y = f d)) ∧ Φ n1 ((ds.filter p).map f)) : WF c (tLc wi g t te vs) ρ n Φ := by
  refine wf_lc ?_
  intro P L σ H R E q
  refine h P L σ H R E fun J ds n' H' s j it ⟨hz, hs, kk⟩ => q J ds n' H' s j it ?_
  refine ⟨fun k m acc => m = n' ∧ acc = ((ds.take k).filter p).map f, ⟨rfl, rfl⟩, ?_, ?_⟩
  · rintro k m acc d hd ⟨e1, e2⟩
    subst e1; subst e2
    have hk : k < ds.length := (List.getElem?_eq_some_iff.mp hd).1
    have ek : ds[k] = d := (List.getElem?_eq_some_iff.mp hd).2
    have tk : ds.take (k + 1) = ds.take k ++ [d] := by rw [List.take_succ, hd]; rfl
    intro P2 L2 σ2 H2 v2 Q2 E2 r2 q2
    refine hs d (List.mem_of_getElem? hd) m P2 L2 σ2 H2 v2 Q2 E2 r2 fun σ3 ρ3 E3 hw hT => q2 σ3 ρ3 E3 hw ?_
    refine hT.mono fun m2 b ⟨e1, e2, he⟩ => ?_
    subst e1
    cases b with
    | true =>
      rw [if_pos rfl]
      refine (he rfl).mono fun m3 y ⟨e3, e4⟩ => ?_
      subst e3; subst e4
      refine ⟨?_, rfl, ?_⟩
      · have h1 : (List.map f (List.filter p (List.take k ds))).length ≤ ds.length := by
          rw [List.length_map]
          exact Nat.le_trans (List.length_filter_le _ _) (by rw [List.length_take]; omega)
        exact Nat.lt_of_le_of_lt (Nat.le_trans h1 hz) (by decide)
      · rw [tk, List.filter_append, List.map_append]
        simp [← e2]
    | false =>
      rw [if_neg Bool.false_ne_true]
      refine ⟨rfl, ?_⟩
      rw [tk, List.filter_append, List.map_append]
      simp [← e2]
  · rintro m acc ⟨e1, e2⟩
    subst e1; subst e2
    rw [List.take_length]
    exact kk
end
end L3
/-! L3h: the rules with the written part K said (within comprehensions it must not hang on the block). -/
namespace L3
open PySem L2
section
variable {X : Cx} (K : PySem.W.Frag)
theorem x_eq (hu : X.A.units + 64 < cLine) (hK : X.K = K := by rfl) : OpR X (compareOp .Eq) (rEqD K) := hK ▸ op_eqD hu
theorem x_ne (hu : X.A.units + 64 < cLine) (hK : X.K = K := by rfl) : OpR X (compareOp .NotEq) (rNeD K) := hK ▸ op_neD hu
theorem x_in (hu : X.A.units + 65 < cLine) (hK : X.K = K := by rfl) : OpR X (compareOp .In) (rInS K false) := hK ▸ op_inSeq hu
theorem x_notIn (hu : X.A.units + 65 < cLine) (hK : X.K = K := by rfl) : OpR X (compareOp .NotIn) (rInS K true) := hK ▸ op_notInSeq hu
theorem x_add (hK : X.K = K := by rfl) : OpR X (binaryOp .Add) (rAddD K) := hK ▸ op_addD
theorem x_ix (hK : X.K = K := by rfl) : IxR X (rIx K) := hK ▸ ix_seq
theorem x_sl (hK : X.K = K := by rfl) : SlR X (rSlS3 K) := hK ▸ sl_seq
theorem x_len (hK : X.K = K := by rfl) : CallR X (.builtin "len") (rLenD K) := hK ▸ call_lenX
theorem x_list (hK : X.K = K := by rfl) : CallR X (.type "list") (rListD K) := hK ▸ call_listX
theorem x_tup (hK : X.K = K := by rfl) : CallR X (.type "tuple") (rTupD K) := hK ▸ call_tupX
theorem x_sum (hc : X.calm = true := by rfl) (hK : X.K = K := by rfl) : CallR X (.builtin "sum") (rSum K) := hK ▸ cr_sum hc
theorem x_max (hc : X.calm = true := by rfl) (hK : X.K = K := by rfl) : CallR X (.builtin "max") (rMax K) := hK ▸ cr_max hc
theorem x_min (hc : X.calm = true := by rfl) (hK : X.K = K := by rfl) : CallR X (.builtin "min") (rMin K) := hK ▸ cr_min hc
theorem x_any (hc : X.calm = true := by rfl) (hK : X.K = K := by rfl) : CallR X (.builtin "any") (rAny K) := hK ▸ cr_any hc
theorem x_all (hc : X.calm = true := by rfl) (hK : X.K = K := by rfl) : CallR X (.builtin "all") (rAll K) := hK ▸ cr_all hc
theorem x_sorted (hu : X.A.units + 64 < cLine) (hK : X.K = K := by rfl) : CallR X (.builtin "sorted") (rSortD K) := hK ▸ cr_sortD hu
theorem x_isi (hK : X.K = K := by rfl) : CallR X (.builtin "isinstance") (rIsi K) := hK ▸ call_isi
theorem x_seq {tg l : Expr} {tl : TE} (hl : PE X l tl) (hK : X.K = K := by rfl) : PI X tg l (iSeq K tl) := hK ▸ pi_seq hl
theorem x_enum {e : Expr} {ta : TA} {p pos tpos : Pos} {elts : List Expr} {kk : Nat} (hg : Gl X "enumerate") (hm : X.mg "enumerate" = none) (ha : PA X [e] ta) (hs : starEach [e] X.env = [(false, eval e X.env)] := by rfl) (hK : X.K = K := by rfl) :
    PI X (.Tuple elts kk tpos) (.Call (.Name "enumerate" p) [e] [] pos) (iEnum K ta) := hK ▸ pi_enum hg hm ha hs
theorem x_tgt {m : Nat} {target : Expr} {t : TGs} (h : PG X target (gTup X.K m t)) (hK : X.K = K := by rfl) : PG X target (gTup K m t) := hK ▸ h
end
end L3
/-! L3i: own dicts whose keys are tuples. -/
namespace L3
open PySem L2
section
variable {X : Cx} {pins : List (Addr × Obj)} {σ : L2.St} {H : Hp} {s : Shared}
mutual
theorem nk_is (I : Inv X pins σ H s) {O : List Addr} : ∀ (d : D) (v : V) (u : Value), Rp X.K (hid O H) v d → RelV v u → nkOk d = true → NestedIs s.heap (nk d) u
  | .non, _, _, h, r, _ => by cases h; cases r; exact .none
  | .int i, _, _, h, r, _ => by cases h; obtain ⟨t, rfl⟩ := r; exact .int i t
  | .str x, _, _, h, r, _ => by cases h; obtain ⟨t, rfl⟩ := r; exact .text x t
  | .tup ds, _, _, h, r, k => by
    cases h with
    | tup hs ha =>
      cases r
      obtain ⟨its, rv, ⟨o, ho, hc, n, hd⟩, _⟩ := I.tuple (same_t same_hid hs)
      exact .tup ho hc hd (by rw [List.toList_toArray]; exact nk_all I ds _ its ha rv k)
  | .bl _, _, _, _, _, k => nomatch k
  | .lst _, _, _, _, _, k => nomatch k
  | .obj _ _, _, _, _, _, k => nomatch k
  | .adr _, _, _, _, _, k => nomatch k
  | .ty _, _, _, _, _, k => nomatch k
  | .er _ _, _, _, _, _, k => nomatch k
  | .dct _, _, _, _, _, k => nomatch k
  | .dcn _ _ _, _, _, _, _, k => nomatch k
theorem nk_all (I : Inv X pins σ H s) {O : List Addr} : ∀ (ds : List D) (vs : List V) (us : List Value), RpAll X.K (hid O H) vs ds → Vals vs us → nkOkAll ds = true → NestedAll s.heap (nkAll ds) us
  | [], _, _, h, r, _ => by cases h; cases r; exact .nil
  | d :: ds, _, _, h, r, k => by
    have h' : (nkOk d && nkOkAll ds) = true := k
    rw [Bool.and_eq_true] at h'
    cases h with
    | cons h1 h2 =>
      cases r with
      | cons r1 r2 => exact .cons (nk_is I d _ _ h1 r1 h'.1) (nk_all I ds _ _ h2 r2 h'.2)
end
theorem key_is (I : Inv X pins σ H s) {O : List Addr} {v : V} {d : D} {u : Value} (h : Rp X.K (hid O H) v d) (r : RelV v u) (k : keyD d = true) : ∃ a, v = .ref a ∧ u = .ref a ∧ (nestedKind X.prog X.w).is s.heap (nk d) a := by
  cases h with
  | @tup a xs ds hs ha =>
    have k' : (nkOkAll ds && decide ((nk (.tup ds)).depth ≤ 8)) = true := k
    rw [Bool.and_eq_true] at k'
    have q := nk_is I _ _ _ (.tup hs ha) r k'.1
    cases r
    exact ⟨a, rfl, rfl, q, of_decide_eq_true k'.2⟩
  | _ => cases k
end
def lookD (kvs : List (D × D)) (k : D) : Option D := (kvs.find? fun kv => decide (nk kv.1 = nk k)).map (·.2)
def putD (kvs : List (D × D)) (k v : D) : List (D × D) := if (lookD kvs k).isSome then kvs.map fun kv => if nk kv.1 = nk k then (kv.1, v) else kv else kvs ++ [(k, v)]
section
variable {K : PySem.W.Frag} {H : Hp}
theorem ent_look {kd : D} : ∀ {kvs : List (D × D)} {xs : List (NestedKey × Addr × Value)}, Paired (EntD K H) kvs xs →
    (lookD kvs kd = none ∧ atKey xs (nk kd) = none) ∨ ∃ v a u w, lookD kvs kd = some v ∧ atKey xs (nk kd) = some (a, u) ∧ RelV w u ∧ Rp K H w v
  | _, _, .nil => .inl ⟨rfl, rfl⟩
  | kv :: kvs, x :: xs, .cons h t => by
    obtain ⟨h1, h2, h3, w, h4, h5⟩ := h
    by_cases e : nk kv.1 = nk kd
    · right
      refine ⟨kv.2, x.2.1, x.2.2, w, ?_, ?_, h4, h5⟩
      · unfold lookD; rw [List.find?_cons_of_pos (by simpa using e)]; rfl
      · unfold atKey; rw [List.find?_cons_of_pos (by simpa [h2] using e)]; rfl
    · have r := ent_look (kd := kd) t
      have e1 : lookD (kv :: kvs) kd = lookD kvs kd := by unfold lookD; rw [List.find?_cons_of_neg (by simpa using e)]
      have e2 : atKey (x :: xs) (nk kd) = atKey xs (nk kd) := by unfold atKey; rw [List.find?_cons_of_neg (by simpa [h2] using e)]
      rw [e1, e2]; exact r
theorem ent_len : ∀ {kvs : List (D × D)} {xs : List (NestedKey × Addr × Value)}, Paired (EntD K H) kvs xs → kvs.length = xs.length
  | _, _, .nil => rfl
  | _, _, .cons _ t => by rw [List.length_cons, List.length_cons, ent_len t]
theorem ent_map {kd vd : D} {u : Value} {w : V} (r : RelV w u) (rw' : Rp K H w vd) : ∀ {kvs : List (D × D)} {xs : List (NestedKey × Addr × Value)}, Paired (EntD K H) kvs xs →
    Paired (EntD K H) (kvs.map fun kv => if nk kv.1 = nk kd then (kv.1, vd) else kv) (xs.map (putAt (nk kd) u))
  | _, _, .nil => .nil
  | kv :: kvs, x :: xs, .cons h t => by
    refine .cons ?_ (ent_map r rw' t)
    obtain ⟨h1, h2, h3, h4⟩ := h
    unfold putAt
    show EntD K H (if nk kv.1 = nk kd then (kv.1, vd) else kv) _
    by_cases e : nk kv.1 = nk kd
    · rw [if_pos e, if_pos (by rw [h2]; exact e)]
      exact ⟨h1, h2, h3, w, r, rw'⟩
    · rw [if_neg e, if_neg (by rw [h2]; exact e)]
      exact ⟨h1, h2, h3, h4⟩
theorem paired_app {α β : Type} {R : α → β → Prop} {a : α} {b : β} (h : R a b) : ∀ {xs : List α} {ys : List β}, Paired R xs ys → Paired R (xs ++ [a]) (ys ++ [b])
  | _, _, .nil => .cons h .nil
  | _, _, .cons q t => .cons q (paired_app h t)
theorem ent_put {kd vd : D} {a : Addr} {u : Value} {w : V} (hk : keyD kd = true) (ra : Rp K H (.ref a) kd) (r : RelV w u) (rw' : Rp K H w vd) {kvs : List (D × D)} {xs : List (NestedKey × Addr × Value)} (h : Paired (EntD K H) kvs xs) :
    Paired (EntD K H) (putD kvs kd vd) (storedH xs (nk kd) a u) := by
  unfold putD storedH
  rcases ent_look (kd := kd) h with ⟨e1, e2⟩ | ⟨v, a', u', w', e1, e2, _⟩
  · rw [e1, e2, if_neg (by simp), if_neg (by simp)]
    exact paired_app ⟨hk, rfl, ra, w, r, rw'⟩ h
  · rw [e1, e2]
    exact ent_map r rw' h
theorem putD_len (kvs : List (D × D)) (k v : D) : (putD kvs k v).length ≤ kvs.length + 1 := by
  unfold putD
  split
  · rw [List.length_map]; omega
  · rw [List.length_append]; exact Nat.le_refl _
end
section
variable {X : Cx} {pins : List (Addr × Obj)} {σ : L2.St} {H : Hp} {s : Shared}
theorem nd_of (I : Inv X pins σ H s) {O : List Addr} {l : Addr} {kvs : List (D × D)} {xs : List (NestedKey × Addr × Value)} (h1 : H l = some (.ext (DictBare X.prog X.w xs l))) (h3 : Paired (EntD X.K (hid O H)) kvs xs) : s.heap.DictOfH (nestedKind X.prog X.w) l xs := by
  obtain ⟨⟨o, es, ep, e1, e2, e3, e4, e5⟩, _⟩ := I.hok l _ h1
  refine ⟨o, es, ep, e1, e2, e3, e4, fun x hx => ?_, e5⟩
  have key : ∀ {kvs : List (D × D)} {xs : List (NestedKey × Addr × Value)}, Paired (EntD X.K (hid O H)) kvs xs → x ∈ xs → (nestedKind X.prog X.w).is s.heap x.1 x.2.1 := by
    intro kvs xs h
    induction h with
    | nil => intro q; cases q
    | cons h t ih =>
      intro q
      rcases List.mem_cons.mp q with q | q
      · subst q
        obtain ⟨g1, g2, g3, _⟩ := h
        obtain ⟨a, ea, eb, is⟩ := key_is I g3 rfl g1
        cases eb
        rw [g2]; exact is
      · exact ih q
  exact key h3 hx
theorem bare_ok {xs : List (NestedKey × Addr × Value)} {l : Addr} {h' : Heap} {pr : Program} {wd : World} {Hq : Hp} (b : DictBare pr wd xs l h') : ObjOk pr wd Hq h' l (.ext (DictBare pr wd xs l)) := by
  obtain ⟨o, es, ep, e1, r⟩ := id b
  exact ⟨b, ⟨o, e1⟩, fun h1 h2 ⟨o, es, ep, q1, q2⟩ k => ⟨o, es, ep, k o q1, q2⟩⟩
end
/-! ### the rules -/
def tDNewN (pr : Program) (wd : World) : TE := fun _ H Q => ∀ p, H p = none → (p == sysModules) = false → Q (.ref p) (upd H p (.ext (DictBare pr wd [] p)))
def rIxN (pr : Program) (wd : World) (K : PySem.W.Frag) : R2 := fun x y H Q => ∃ (O : List Addr) (l : Addr) (kvs : List (D × D)) (kd v : D), x = .ref l ∧ NDict pr wd K O H l kvs ∧ Rp K (hid O H) y kd ∧ keyD kd = true ∧ lookD kvs kd = some v ∧ ∀ u, Rp K (hid O H) u v → Q u H
def tGetN (pr : Program) (wd : World) (K : PySem.W.Frag) (td ty tx : TE) : TE := fun σ H Q => td σ H fun x H1 => ∃ l, x = .ref l ∧ (∃ O kvs, NDict pr wd K O H1 l kvs) ∧ ty σ H1 fun y H2 => tx σ H2 fun z H3 => ∃ (O : List Addr) (kvs : List (D × D)) (kd : D), NDict pr wd K O H3 l kvs ∧ Rp K (hid O H3) y kd ∧ keyD kd = true ∧
  (∀ v u, lookD kvs kd = some v → Rp K (hid O H3) u v → Q u H3) ∧ (lookD kvs kd = none → Q z H3)
def rSetN (pr : Program) (wd : World) (K : PySem.W.Frag) : TSet := fun o i v H Q => ∃ (O : List Addr) (l : Addr) (kvs : List (D × D)) (kd vd : D), o = .ref l ∧ l ∈ O ∧ NDict pr wd K O H l kvs ∧ Rp K (hid O H) i kd ∧ keyD kd = true ∧ Rp K (hid O H) v vd ∧ kvs.length < sizeLine ∧
  ∀ φ, NDict pr wd K O (upd H l (.ext φ)) l (putD kvs kd vd) → Q (upd H l (.ext φ))
def rSortN (pr : Program) (wd : World) (K : PySem.W.Frag) : List V → Hp → VK → Prop := fun vs H Q => ∃ (O : List Addr) (l : Addr) (kvs : List (D × D)), vs = [.ref l] ∧ NDict pr wd K O H l kvs ∧ plainAll (kvs.map (·.1)) = true ∧ PySem.W.AllAlike ((kvs.map (·.1)).map dpy) ∧ PySem.W.Sortable ((kvs.map (·.1)).map dpy) ∧ kvs.length ≤ sizeLine ∧
  (∀ d ∈ kvs.map (·.1), (dpy d).depth ≤ 50) ∧ ∀ p ys, H p = none → RpAll K (hid O H) ys (sortD (kvs.map (·.1))) → Q (.ref p) (upd H p (.lst ys))
section
variable {X : Cx} (pr : Program) (wd : World) (K : PySem.W.Frag)
theorem sys_lt {X : Cx} {pins : List (Addr × Obj)} {σ : L2.St} {H : Hp} {s : Shared} (I : Inv X pins σ H s) : (s.heap.objs.size == sysModules) = false := by
  have := I.big
  simp only [beq_eq_false_iff_ne, ne_eq]
  intro e
  exact absurd this (by rw [e]; exact Nat.lt_irrefl _)
theorem pe_dnewN {pos : Pos} (hp : X.prog = pr := by rfl) (hw : X.w = wd := by rfl) : PE X (.Dict [] [] pos) (tDNewN pr wd) := by
  subst hp; subst hw
  refine ⟨fun pins s σ H Q I h => ?_⟩
  refine wpAny_Dict_empty ⟨.ref s.heap.objs.size, _, I.laid (a := s.heap.objs.size) (o := .ext (DictBare X.prog X.w [] s.heap.objs.size)) (t' := s.toks) (fun _ _ q => Heap.get?_push_of_some _ q) (Nat.le_refl _) (bare_ok ?_), rfl, h _ (I.hok.fresh (Nat.le_refl _)) (sys_lt I)⟩
  obtain ⟨o, es, ep, e1, e2, e3, e4, _, e5⟩ := Heap.DictOfH.new (knd := nestedKind X.prog X.w) s.heap
  exact ⟨o, es, ep, e1, e2, e3, e4, e5⟩
theorem x_ixN (hu : X.A.units + 64 < cLine) (hp : X.prog = pr := by rfl) (hw : X.w = wd := by rfl) (hK : X.K = K := by rfl) : IxR X (rIxN pr wd K) := by
  subst hp; subst hw; subst hK
  intro value slice pins s σ H x y v u Q I rx ry h hs
  obtain ⟨O, l, kvs, kd, vd, rfl, ⟨xs, n1, n2, n3⟩, rk, hk, hl, q⟩ := h
  cases rx
  obtain ⟨a, ea, eb, is⟩ := key_is I rk ry hk
  subst eb
  have dd := nd_of I n1 n3
  rcases ent_look (kd := kd) n3 with ⟨e1, _⟩ | ⟨v', a', u', w, e1, e2, e3, e4⟩
  · rw [e1] at hl; cases hl
  · rw [e1] at hl
    cases hl
    refine PyProof.Rows.tail_any dd.typeIs PySem.F.slot_dict_getitem.lookup ?_ hs
    exact wpAny_getItem_heap (by show X.A.in1.units + 8 < cLine; have : X.A.in1.units = X.A.units + 1 := rfl; omega) is dd e2 ⟨w, H, I.tok _, e3, q w e4⟩
theorem x_setN (hu : X.A.units + 64 < cLine) (hp : X.prog = pr := by rfl) (hw : X.w = wd := by rfl) (hK : X.K = K := by rfl) : PSet X (rSetN pr wd K) := by
  subst hp; subst hw; subst hK
  intro pins s σ H o i v ov iv u Q I ro ri rv h
  obtain ⟨O, l, kvs, kd, vd, rfl, lO, ⟨xs, n1, n2, n3⟩, rk, hk, rvd, hz, q⟩ := h
  cases ro
  obtain ⟨a, ea, eb, is⟩ := key_is I rk ri hk
  subst eb
  have dd := nd_of I n1 n3
  refine wpAny_setItem_heap (hsz := by rw [← ent_len n3]; exact Nat.le_of_lt hz) (by show X.A.in1.units + 8 < cLine; have : X.A.in1.units = X.A.units + 1 := rfl; omega) is dd fun h' dd' hs => ?_
  obtain ⟨o, es, ep, e1, e2, e3, e4, _, e5⟩ := dd'
  have bb : DictBare X.prog X.w (storedH xs (nk kd) a u) l h' := ⟨o, es, ep, e1, e2, e3, e4, e5⟩
  refine ⟨_, d_write I (by rw [n1]; exact True.intro) hs ⟨o, e1⟩ (bare_ok bb), q _ ?_⟩
  subst ea
  refine ⟨_, upd_same, n2, ?_⟩
  rw [hid_upd_in lO]
  exact ent_put hk rk rv rvd n3
theorem pe_getN {o e f : Expr} {apos cpos : Pos} {td ty tx : TE} (hu : X.A.units + 64 < cLine) (ho : PE X o td) (he : PE X e ty) (hf : PE X f tx) (m : M2 X o "get" apos e f cpos) (hp : X.prog = pr := by rfl) (hw : X.w = wd := by rfl) (hK : X.K = K := by rfl) :
    PE X (.Call (.Attribute o "get" apos) [e, f] [] cpos) (tGetN pr wd K td ty tx) := by
  subst hp; subst hw; subst hK
  refine ⟨fun pins s σ H Q I h => ?_⟩
  refine wpAny_Call_method m.base m.few m.line PySem.F.plainAttrs_dict PySem.F.slot_dict_get PySem.F.type_dict_get (thn (ho.run pins s σ H _ I h) fun u s1 ⟨x, H1, I1, rx, l, ex, ⟨O, kvs, xs, n1, n2, n3⟩, q1⟩ => ?_)
  subst ex
  obtain rfl : u = Value.ref l := rx
  have dd := nd_of I1 n1 n3
  refine ⟨dd.typeIs, fun b eb => ?_, ?_⟩
  · cases eb
    obtain ⟨o, es, ep, e1, e2, _⟩ := dd
    exact ⟨o, e1, e2.2.1⟩
  rw [m.trees]
  refine Calls.callWith_builtin rfl (Calls.evalArgs_plain (Calls.spliced_cons (thn (he.run pins s1 σ H1 _ I1 q1) fun iv s2 ⟨y, H2, I2, ry, q2⟩ =>
    Calls.spliced_cons (thn (hf.run pins s2 σ H2 _ I2 q2) fun fv s3 ⟨z, H3, I3, rz, O3, kvs3, kd, ⟨xs3, m1, m2, m3⟩, rk, hk, qs, qn⟩ => Calls.spliced_nil ?_))))
  obtain ⟨a, ea, eb, is⟩ := key_is I3 rk ry hk
  subst eb
  have dd3 := nd_of I3 m1 m3
  refine call_meetsIn PySem.F.slot_dict_get dd3.typeIs PySem.F.entry_dict_get (PySem.F.args_dict_get_3 _ _ _) (meetsH_dict_get_default (nestedKind X.prog X.w) l a m2 fv) ⟨by show X.A.in1.units + 8 < cLine; have : X.A.in1.units = X.A.units + 1 := rfl; omega, nk kd, xs3, is, dd3, ?_⟩
  rcases ent_look (kd := kd) m3 with ⟨e1, e2⟩ | ⟨v', a', u', w, e1, e2, e3, e4⟩
  · rw [e2]
    exact ⟨z, H3, I3.tok _, rz, qn e1⟩
  · rw [e2]
    exact ⟨w, H3, I3.tok _, e3, qs v' w e1 e4⟩
end
end L3
/-! L3j: sorted(d); the rules of own dicts over data; count. -/
namespace L3
open PySem L2 PySem.W PyProof.Rows PySem.Calls PyProof.V
section
variable {prog : Program} {w : World} {A : Around} {E : Value → Shared → Prop} {s : Shared}
theorem sorted_dictH {β : Type} {R : Value → β → Prop} {enc : β → PyData} {bs : List β} {d : Addr} {es : Array DictEntry} {ep : Nat} {Q : Value → Shared → Prop} (hh : A.handled = none) (lo : (d == sysModules) = false) (hD : s.heap.DictRaw d es ep)
    (e : EachIs R (es.toList.map (·.key)) bs) (er : EachIs (fun v b => ∃ as, Reads s.heap v (enc b) as) (es.toList.map (·.key)) bs) (hal : AllAlike (bs.map enc)) (hk : Sortable (bs.map enc)) (hL : bs.length ≤ sizeLine)
    (hu : ∀ b, b ∈ bs → A.units + 2 + (enc b).depth < cLine)
    (h : ∀ (h1 h2 : Heap) (tk : Nat) (out : List Value) (c : Nat), (∀ b o, s.heap.get? b = some o → h1.get? b = some o) → (∀ b o, h1.get? b = some o → h2.get? b = some o) → h2.get? h1.objs.size = some { cls := .type "list", data := .seq out.toArray c } → out.length = bs.length → EachIs R out (bs.mergeSort (dataLe false enc)) → Q (.ref h1.objs.size) { s with heap := h2, toks := tk }) :
    wpAny (model prog w) A (call (.builtin "sorted") [.ref d]) Q E s := by
  have hn : es.size ≤ sizeLine := by
    have q := e.length
    rw [List.length_map, Array.length_toList] at q
    omega
  refine call_function_entry kind_sorted plain_sorted entry_sorted (args_sorted1 _) ?_
  unfold Builtin.«sorted»
  refine wpAny_bind (m := checkCount "sorted" 1 1 _) (wpAny_pure ?_)
  refine wpAny_bind (kdu_collect (A := A.in1) (KdlSrc.rawDict lo) hh hD hn fun h' tk acc hkp hacc => ?_)
  have hl : acc.toList = es.toList.map (·.key) := by
    apply List.ext_getElem?
    intro j
    by_cases hj : j < acc.size
    · obtain ⟨hi, hv⟩ := hacc.2 j acc[j] (by simp [hj])
      rw [Array.getElem?_toList, Array.getElem?_eq_getElem hj, List.getElem?_map, Array.getElem?_toList, Array.getElem?_eq_getElem hi, hv]; rfl
    · have hs : acc.size = es.size := hacc.1
      rw [Array.getElem?_toList, Array.getElem?_eq_none (by omega), List.getElem?_map, Array.getElem?_toList, Array.getElem?_eq_none (by omega)]; rfl
  have hz : acc.toList.length ≤ sizeLine := by rw [Array.length_toList, hacc.1]; exact hn
  refine wpAny_bind (wpAny_newList ?_ hz)
  rw [hl] at hz ⊢
  generalize hvs : es.toList.map (·.key) = vs at e er hz ⊢
  have ho : (h'.push { cls := .type "list", data := .seq vs.toArray }).get? h'.objs.size = some (seqObj "list" vs.toArray 0) := Heap.get?_push_size _ rfl
  have old : ∀ b o, s.heap.get? b = some o → (sortingHeap (h'.push { cls := .type "list", data := .seq vs.toArray }) h'.objs.size vs).get? b = some o := fun b o q =>
    sortingHeap_old (Nat.ne_of_lt (Heap.lt_size (hkp b o q))) (Heap.get?_push_of_some _ (hkp b o q))
  have er' : EachIs (fun v b => ∃ as, Reads (sortingHeap (h'.push { cls := .type "list", data := .seq vs.toArray }) h'.objs.size vs) v (enc b) as) vs bs := er.mono fun _ _ ⟨as, r⟩ => ⟨as, PyProof.Rows.Reads.keeps old r⟩
  refine wpAny_bind (wpAny_holding ?_)
  refine wpAny_call_entry slot_list_sort ⟨_, ho, rfl⟩ entry_list_sort (list_sort_vals (κ := dataKind (sortingHeap (h'.push { cls := .type "list", data := .seq vs.toArray }) h'.objs.size vs) (bs.map enc)) ho (SortsAt.data (s := { s with heap := sortingHeap (h'.push { cls := .type "list", data := .seq vs.toArray }) h'.objs.size vs, toks := tk }) (each_map (R := fun v d => ∃ as, Reads (sortingHeap (h'.push { cls := .type "list", data := .seq vs.toArray }) h'.objs.size vs) v d as) enc er') hal hk (bound_map hu)) (by rw [e.length]; exact hL) ⟨.none, rfl, ?_⟩) (args_list_sort _)
  obtain ⟨c, hc⟩ := sortedHeap_at (out := (sortVals (dataKind (sortingHeap (h'.push { cls := .type "list", data := .seq vs.toArray }) h'.objs.size vs) (bs.map enc)) false vs vs).toArray) ho
  refine wpAny_pure ⟨_, rfl, h h' _ tk _ c hkp ?_ hc (by rw [sortVals_length false rfl]; exact e.length) (sortVals_data false e er' hal)⟩
  intro b o q
  rw [sortedHeap_old (Nat.ne_of_lt (Heap.lt_size q)) (Nat.lt_of_lt_of_le (Heap.lt_size q) (by rw [Heap.size_push]; exact Nat.le_succ _))]
  exact Heap.get?_push_of_some _ q
end
section
variable {X : Cx} (pr : Program) (wd : World) (K : PySem.W.Frag)
theorem ent_keys {K : PySem.W.Frag} {H : Hp} : ∀ {kvs : List (D × D)} {xs : List (NestedKey × Addr × Value)}, Paired (EntD K H) kvs xs → EachIs (fun (u : Value) (d : D) => ∃ v, RelV v u ∧ Rp K H v d) (xs.map fun x => Value.ref x.2.1) (kvs.map (·.1))
  | _, _, .nil => .nil
  | _, _, .cons (a := kv) (b := x) h t => .cons ⟨V.ref x.2.1, rfl, h.2.2.1⟩ (ent_keys t)
theorem x_sortN (hu : X.A.units + 64 < cLine) (hcalm : X.calm = true := by rfl) (hp : X.prog = pr := by rfl) (hw : X.w = wd := by rfl) (hK : X.K = K := by rfl) : CallR X (.builtin "sorted") (rSortN pr wd K) := by
  subst hp; subst hw; subst hK
  intro pins s σ H vs us Q I r h
  obtain ⟨O, l, kvs, rfl, ⟨xs, n1, n2, n3⟩, hpl, hal, hk, hL, hdep, q⟩ := h
  rw [Vals.ref1 r]
  obtain ⟨⟨o, es, ep, e1, e2, e3, e4, e5⟩, _⟩ := I.hok l _ n1
  have el := ent_keys n3
  have ek : es.toList.map (·.key) = xs.map fun x => Value.ref x.2.1 := by rw [e4, List.map_map]; rfl
  have er : EachIs (fun (u : Value) (d : D) => ∃ as, Reads s.heap u (dpy d) as) (xs.map fun x => Value.ref x.2.1) (kvs.map (·.1)) := by
    refine (each_mem el).mono ?_
    rintro u d ⟨⟨v, r1, r2⟩, hd⟩
    exact Dp.reads I (dpy d) v u (Dp.mono same_hid (r2.dp (plainAll_mem hpl hd))) r1
  refine sorted_dictH (s := s) (I.ok.hd hcalm) n2 ⟨o, e1, e2, e3⟩ (by rw [ek]; exact el) (by rw [ek]; exact er) hal hk (by rw [List.length_map]; exact hL) (fun d hd => by have := hdep d hd; omega) fun h1 h2 tk out c k1 k2 hc ho eo => ?_
  obtain ⟨ys, g1, g2⟩ := rp_each eo
  have hlen : ys.length ≤ sizeLine := by rw [g1.length, ho, List.length_map]; exact hL
  have I1 : Inv X pins σ H { s with heap := h1 } := I.kept (t' := s.toks) k1
  exact ⟨.ref _, upd H h1.objs.size (.lst ys), I1.laid (t' := tk) k2 (Nat.le_refl _) ⟨hlen, out, c, g1, hc⟩, rfl, q _ ys (I1.hok.fresh (Nat.le_refl _)) g2⟩
/-- list.count of data -/
def rCountD (K : PySem.W.Frag) : V → List V → Hp → VK → Prop := fun x vs H Q => ∃ (O : List Addr) (y : V) (ds : List D) (d : D), vs = [y] ∧ Rp K (hid O H) x (.lst ds) ∧ Rp K (hid O H) y d ∧ fit d = true ∧ fit (.lst ds) = true ∧ Q (.int ((ds.countP fun z => eqD z d : Nat) : Int)) H
theorem countP_map {α β : Type} (f : α → β) (p : β → Bool) (l : List α) : (l.map f).countP p = l.countP (p ∘ f) := by rw [List.countP_map]
theorem x_count (hu : X.A.units + 65 < cLine) (hK : X.K = K := by rfl) : MtR X "list.count" (rCountD K) := by
  subst hK
  intro pins s σ H x vs v us Q I rx rv h
  obtain ⟨O, y, ds, d, rfl, rl, ry, hd, hds, q⟩ := h
  cases rl with
  | @lst a xs _ hs ha =>
    cases rx
    cases rv with
    | cons r1 r2 =>
      cases r2
      obtain ⟨its, n, rit, e, hz⟩ := inv_rdL I (same_rd same_hid hs)
      obtain ⟨bs, rd⟩ := Dp.reads I (dpy d) y _ (Dp.mono same_hid (ry.dp (fit_p hd))) r1
      obtain ⟨as, ra⟩ := Dp.readsAll I (dpyAll ds) xs its (DpAll.mono same_hid (ha.dp (fit_p hds))) rit
      have hxs : PyData.canLayAll0 (dpyAll ds) = true := SeqAt.canLay_of_shaped (fit_s hds)
      have hroom : X.A.units + 1 + min (PyData.depthAll (dpyAll ds)) (dpy d).depth < cLine := room_in_shaped (fit_s hd) hu
      have hmap : its.map (SeqAt.readOf s.heap) = dpyAll ds := SeqAt.readsAll_map (dpyAll ds) its as hxs ra
      refine call_meets PySem.F.slot_list_count ⟨_, e, rfl⟩ PySem.F.entry_list_count (PySem.F.args_list_count_2 _ _) (SeqAt.list_countAt a its.toArray n none #[] _ (fun u => PyData.eqv (SeqAt.readOf s.heap u) (dpy d))) ⟨e, SeqAt.items_eqAt (vs := its.toArray) (show ReadsAll s.heap its.toArray.toList (dpyAll ds) as from ra) rd hxs (SeqAt.canLay_of_shaped (fit_s hd)) hroom, ?_⟩
      refine ⟨.int _, H, I.tok _, ⟨_, rfl⟩, ?_⟩
      have ec : its.toArray.toList.countP (fun u => PyData.eqv (SeqAt.readOf s.heap u) (dpy d)) = ds.countP fun z => eqD z d := by
        rw [List.toList_toArray]
        have h1 : its.countP (fun u => PyData.eqv (SeqAt.readOf s.heap u) (dpy d)) = (its.map (SeqAt.readOf s.heap)).countP fun z => PyData.eqv z (dpy d) := by rw [List.countP_map]; rfl
        rw [h1, hmap, dpyAll_map, List.countP_map]; rfl
      rw [ec]
      exact q
end
end L3
/-! L3k: own dicts over data. -/
namespace L3
open PySem L2
section
variable {X : Cx} (K : PySem.W.Frag)
theorem x_bm {o e : Expr} {es : List Expr} {to : TE} {t : TA} {name : Str} {apos cpos : Pos} {T id : String} {r : V → List V → Hp → VK → Prop} (h : PE X (.Call (.Attribute o name apos) (e :: es) [] cpos) (tBM X.K T r to t)) (hK : X.K = K := by rfl) : PE X (.Call (.Attribute o name apos) (e :: es) [] cpos) (tBM K T r to t) := hK ▸ h
end
section
variable {c : Ctx} {ρ : List SD} {n : Nat} {ta tb te : TE} {t u : TT} {as : TA} {Φ : Nat → D → Prop} {Ψ : Out} {ts us : TS}
theorem we_count {te2 : TE} (h : WE c te ρ n fun n1 d => ∃ ds, d = .lst ds ∧ WE c te2 ρ n1 fun n2 e => fit e = true ∧ fit (.lst ds) = true ∧ Φ n2 (.int ((ds.countP fun z => eqD z e : Nat) : Int))) : WE c (tBM c.K "list" (rCountD c.K) te (tCons te2 tNil)) ρ n Φ := fun P L σ H Q E q => by
  refine h P L σ H _ E fun x d n1 H1 s1 j1 r1 ⟨ds, e, h1⟩ => ?_
  subst e
  have E1 := E.step s1 j1
  cases r1 with
  | @lst a xs _ hs ha =>
    refine ⟨.inl ⟨rfl, xs, .inl (same_rd same_hid hs)⟩, ?_⟩
    refine h1 P L σ H1 _ E1 fun y d2 n2 H2 s2 j2 r2 ⟨f1, f2, k⟩ => ?_
    exact ⟨L ++ c.O, y, ds, d2, rfl, (Rp.lst hs ha).mono (E1.sameLO s2), r2, f1, f2, q _ _ n2 H2 (s1.trans s2) j2 (.int _) k⟩
theorem Env.dic_get {P : Hp} {L : List Addr} {n : Nat} {H : Hp} {σ : List (Option V)} {i : Nat} {kvs : List (D × D)} (E : Env c P L n H σ ρ) (h : ρ[i]? = some (.dic kvs)) : ∃ l, σ[i]? = some (some (.ref l)) ∧ l ∈ L ∧ NDict c.pr c.wd c.K (L ++ c.O) H l kvs := by
  obtain ⟨Ls, sl, sb⟩ := E.slots
  obtain ⟨l, h1, h2, h3⟩ := sl.getD h
  exact ⟨l, h1, sb.subset h2, h3⟩
theorem we_dix {i : Nat} {kvs : List (D × D)} (h0 : ρ[i]? = some (.dic kvs)) (h : WE c te ρ n fun n1 kd => keyD kd = true ∧ ∃ v, lookD kvs kd = some v ∧ Φ n1 v) : WE c (tOp (rIxN c.pr c.wd c.K) (tVar i) te) ρ n Φ := fun P L σ H Q E q => by
  obtain ⟨l, h1, hL, h2⟩ := E.dic_get h0
  refine ⟨.ref l, h1, ?_⟩
  refine h P L σ H _ E fun y kd n1 H1 s1 j1 r1 ⟨hk, v, hv, k⟩ => ?_
  have E1 := E.step s1 j1
  obtain ⟨l', g1, _, g2⟩ := E1.dic_get h0
  rw [h1] at g1
  cases g1
  exact ⟨L ++ c.O, l, kvs, kd, v, rfl, g2, r1, hk, hv, fun u r => q u v n1 H1 s1 j1 r k⟩
theorem we_dget {i : Nat} {kvs : List (D × D)} {tx : TE} (h0 : ρ[i]? = some (.dic kvs)) (h : WE c te ρ n fun n1 kd => WE c tx ρ n1 fun n2 xd => keyD kd = true ∧ Φ n2 ((lookD kvs kd).getD xd)) : WE c (tGetN c.pr c.wd c.K (tVar i) te tx) ρ n Φ := fun P L σ H Q E q => by
  obtain ⟨l, h1, hL, h2⟩ := E.dic_get h0
  refine ⟨.ref l, h1, l, rfl, ⟨_, _, h2⟩, ?_⟩
  refine h P L σ H _ E fun y kd n1 H1 s1 j1 r1 h3 => ?_
  have E1 := E.step s1 j1
  refine h3 P L σ H1 _ E1 fun z xd n2 H2 s2 j2 r2 ⟨hk, k⟩ => ?_
  have E2 := E1.step s2 j2
  obtain ⟨l', g1, _, g2⟩ := E2.dic_get h0
  rw [h1] at g1
  cases g1
  refine ⟨L ++ c.O, kvs, kd, g2, r1.mono (E1.sameLO s2), hk, fun v u hv ru => ?_, fun hn => ?_⟩
  · rw [hv] at k
    exact q u v n2 H2 (s1.trans s2) j2 ru k
  · rw [hn] at k
    exact q z xd n2 H2 (s1.trans s2) j2 r2 k
theorem Slots.dic_at {pr : Program} {wd : World} {K : PySem.W.Frag} {O : List Addr} {H : Hp} {kvs lvs : List (D × D)} : ∀ {σ : List (Option V)} {ρ : List SD} {L : List Addr} {i : Nat}, Slots pr wd K O H σ ρ L → L.Nodup → ρ[i]? = some (.dic kvs) → ∃ l, σ[i]? = some (some (.ref l)) ∧ l ∈ L ∧ NDict pr wd K O H l kvs ∧
    ∀ (o : HO), NDict pr wd K O (upd H l o) l lvs → hid O (upd H l o) = hid O H → Slots pr wd K O (upd H l o) σ (ρ.set i (.dic lvs)) L
  | _, _, _, _, .nil, _, e => by simp at e
  | _, _, _, 0, .un _, _, e => by simp at e
  | _, _, _, i + 1, .un s, nd, e => by
    obtain ⟨l, h1, h2, h3, h5⟩ := Slots.dic_at (i := i) s nd (by simpa using e)
    exact ⟨l, by simpa using h1, h2, h3, fun ys a b => .un (h5 ys a b)⟩
  | _, _, _, 0, .val _ _, _, e => by simp at e
  | _, _, _, i + 1, .val r s, nd, e => by
    obtain ⟨l, h1, h2, h3, h5⟩ := Slots.dic_at (i := i) s nd (by simpa using e)
    exact ⟨l, by simpa using h1, h2, h3, fun ys a b => .val (by rw [b]; exact r) (h5 ys a b)⟩
  | _, _, _, 0, .own _ _ _, _, e => by simp at e
  | _, _, _, i + 1, .own h r s, nd, e => by
    obtain ⟨l, h1, h2, h3, h5⟩ := Slots.dic_at (i := i) s (List.nodup_cons.mp nd).2 (by simpa using e)
    exact ⟨l, by simpa using h1, List.mem_cons_of_mem _ h2, h3, fun ys a b => .own ((upd_ne fun e => (List.nodup_cons.mp nd).1 (by rw [e]; exact h2)).trans h) (by rw [b]; exact r) (h5 ys a b)⟩
  | _, _, _, 0, .dic h s, nd, e => by
    simp at e
    subst e
    exact ⟨_, rfl, List.mem_cons_self, h, fun ys a b => .dic a (s.move (fun l hl => upd_ne fun e => (List.nodup_cons.mp nd).1 (by rw [← e]; exact hl)) (by rw [b]; exact Same.refl _))⟩
  | _, _, _, 0, .dk h s, nd, e => by simp at e
  | _, _, _, 0, .tw h s, nd, e => by simp at e
  | _, _, _, i + 1, .dic h s, nd, e => by
    obtain ⟨l, h1, h2, h3, h5⟩ := Slots.dic_at (i := i) s (List.nodup_cons.mp nd).2 (by simpa using e)
    exact ⟨l, by simpa using h1, List.mem_cons_of_mem _ h2, h3, fun ys a b => .dic (h.move (upd_ne fun e => (List.nodup_cons.mp nd).1 (by rw [e]; exact h2)) (by rw [b]; exact Same.refl _)) (h5 ys a b)⟩
  | _, _, _, i + 1, .dk h s, nd, e => by
    obtain ⟨l, h1, h2, h3, h5⟩ := Slots.dic_at (i := i) s (List.nodup_cons.mp nd).2 (by simpa using e)
    exact ⟨l, by simpa using h1, List.mem_cons_of_mem _ h2, h3, fun ys a b => .dk (h.move (upd_ne fun e => (List.nodup_cons.mp nd).1 (by rw [e]; exact h2)) (by rw [b]; exact Same.refl _)) (h5 ys a b)⟩
  | _, _, _, i + 1, .tw h s, nd, e => by
    obtain ⟨l, h1, h2, h3, h5⟩ := Slots.dic_at (i := i) s (List.nodup_cons.mp nd).2 (by simpa using e)
    exact ⟨l, by simpa using h1, List.mem_cons_of_mem _ h2, h3, fun ys a b => .tw (h.move (upd_ne fun e => (List.nodup_cons.mp nd).1 (by rw [e]; exact h2)) (by rw [b]; exact Same.refl _)) (h5 ys a b)⟩
  | _, _, _, 0, .ot _ _ _, _, e => by simp at e
  | _, _, _, i + 1, .ot h q s, nd, e => by
    subst q
    obtain ⟨l, h1, h2, h3, h5⟩ := Slots.dic_at (i := i) s (List.nodup_append.mp nd).2.1 (by simpa using e)
    exact ⟨l, by simpa using h1, List.mem_append_right _ h2, h3, fun ys a b => .ot (OT.mv _ h (fun x hx => upd_ne fun e => (List.nodup_append.mp nd).2.2 x hx _ h2 e) fun v d r => by rw [b]; exact r) rfl (h5 ys a b)⟩
theorem Env.dic_at {P : Hp} {L : List Addr} {n : Nat} {H : Hp} {σ : List (Option V)} {i : Nat} {kvs : List (D × D)} (E : Env c P L n H σ ρ) (h : ρ[i]? = some (.dic kvs)) : ∃ l, σ[i]? = some (some (.ref l)) ∧ l ∈ L ++ c.O ∧ NDict c.pr c.wd c.K (L ++ c.O) H l kvs ∧
    ∀ (o : HO) (lvs : List (D × D)), NDict c.pr c.wd c.K (L ++ c.O) (upd H l o) l lvs → Env c P L n (upd H l o) σ (ρ.set i (.dic lvs)) := by
  obtain ⟨Ls, sl, sb⟩ := E.slots
  have nd := sb.nodup E.nd
  obtain ⟨l, h1, h2, h3, _⟩ := sl.dic_at (lvs := kvs) nd h
  have lL := sb.subset h2
  have hm : l ∈ L ++ c.O := List.mem_append_left _ lL
  have hO : l ∉ c.O := (E.fresh l lL).2
  refine ⟨l, h1, hm, h3, fun o lvs hy => ?_⟩
  have bs : Same (hid c.B c.H0) (hid c.B (upd H l o)) := same_upd_old (E.fresh l lL).1 E.base
  obtain ⟨l', g1, g2, g3, g5⟩ := sl.dic_at (lvs := lvs) nd h
  rw [h1] at g1
  cases g1
  exact { nd := E.nd, fresh := E.fresh, slots := ⟨Ls, g5 o hy (hid_upd_in hm), sb⟩,
          lst := fun a ha => by
            by_cases e : a = l
            · exact ⟨_, by rw [e, upd_same]⟩
            · rw [upd_ne e]; exact E.lst a ha,
          bag := fun b q hb => (E.bag b q hb).move (fun o h => by rw [upd_ne fun e : b = l => hO (e ▸ (E.bO b q hb).1)]; exact h) fun o h => by rw [upd_ne fun e : q = l => hO (e ▸ (E.bO b q hb).2.1)]; exact h,
          base := bs, pers := by rw [hid_upd_in hm]; exact E.pers, bO := E.bO,
          al := fun o ho => by rw [upd_ne fun e : o = l => hO (e ▸ ho)]; exact E.al o ho }
/-- d[k] = e -/
theorem ws_dput {i : Nat} {kvs : List (D × D)} {tk : TE} (h0 : ρ[i]? = some (.dic kvs)) (hz : kvs.length < 16777216) (h : WE c te ρ n fun n1 vd => WE c tk ρ n1 fun n2 kd => keyD kd = true ∧ Ψ.nx n2 (ρ.set i (.dic (putD kvs kd vd)))) : WS c (tAsg te (gSub (tVar i) tk (rSetN c.pr c.wd c.K))) ρ n Ψ := fun P L σ H Dn E A => by
  refine h P L σ H _ E fun y vd n1 H1 s1 j1 r1 h1 => ?_
  have E1 := E.step s1 j1
  obtain ⟨l, g1, gL, g2, _⟩ := E1.dic_at h0
  refine ⟨.ref l, g1, ?_⟩
  refine h1 P L σ H1 _ E1 fun z kd n2 H2 s2 j2 r2 ⟨hk, k⟩ => ?_
  have E2 := E1.step s2 j2
  obtain ⟨l', g1', gL', g2', up⟩ := E2.dic_at h0
  rw [g1] at g1'
  cases g1'
  refine ⟨L ++ c.O, l, kvs, kd, vd, rfl, gL, g2', r2, hk, r1.mono (E1.sameLO s2), by rw [sizeLine_eq]; exact hz, fun φ hN => ?_⟩
  exact A.nx L n2 _ σ _ (up _ _ hN) k
/-- {} -/
theorem ws_dnew {i : Nat} (hi : i < ρ.length) (k : Ψ.nx n (ρ.set i (.dic []))) : WS c (tAsg (tDNewN c.pr c.wd) (gName i)) ρ n Ψ := fun P L σ H Dn E A => by
  intro p hp hs
  have w := E.new hp
  have nin : p ∉ L ++ c.O := E.noO p hp
  have T := E.newT (o := .ext (DictBare c.pr c.wd [] p)) hp
  have E1 := E.step T.1 T.2.1
  have e0 : ∀ O, hid (p :: O) (upd H p (.ext (DictBare c.pr c.wd [] p))) = hid O H := fun O => hid_new_in hp
  obtain ⟨Ls, sl0, sb⟩ := E.slots
  have sl : Slots c.pr c.wd c.K (p :: (L ++ c.O)) (upd H p (.ext (DictBare c.pr c.wd [] p))) σ ρ Ls := sl0.move (fun l hl => upd_ne fun e => w.2.2 (e ▸ sb.subset hl)) (by rw [e0]; exact Same.refl _)
  have nd : NDict c.pr c.wd c.K (p :: (L ++ c.O)) (upd H p (.ext (DictBare c.pr c.wd [] p))) p [] := ⟨[], upd_same, hs, .nil⟩
  obtain ⟨L1, L2, L3, sl2, eL, sub⟩ := Slots.setN nd (fun q => w.2.2 (sb.subset q)) i hi sl
  have mv : ∃ Lp : List Addr, (L1 ++ p :: L2).Sublist Lp ∧ Lp.Perm (p :: L) := by
    rw [eL] at sb
    have h5 : (L1 ++ L2).Sublist L := (List.Sublist.append_left sub L1).trans sb
    exact ins_sub h5
  obtain ⟨Lp, sLp, pLp⟩ := mv
  have mem : ∀ a, a ∈ Lp ++ c.O ↔ a ∈ p :: (L ++ c.O) := fun a => by
    rw [show p :: (L ++ c.O) = (p :: L) ++ c.O from rfl, List.mem_append, List.mem_append, pLp.mem_iff]
  refine A.nx Lp n _ _ _ ?_ k
  exact { nd := pLp.nodup_iff.mpr (List.nodup_cons.mpr ⟨w.2.2, E.nd⟩),
          fresh := fun l hl => by
            rcases List.mem_cons.mp (pLp.mem_iff.mp hl) with q | q
            · subst q; exact ⟨w.1, w.2.1⟩
            · exact E.fresh l q,
          slots := ⟨_, sl2.move (fun _ _ => rfl) (same_hid_sub fun a ha => (mem a).mp ha), sLp⟩,
          lst := fun l hl => by
            rcases List.mem_cons.mp (pLp.mem_iff.mp hl) with q | q
            · subst q; exact ⟨_, upd_same⟩
            · exact E1.lst l q,
          bag := T.2.1,
          base := E1.base,
          pers := (E.pers.trans (by rw [e0]; exact Same.refl _)).trans (same_hid_sub fun a ha => (mem a).mp ha),
          bO := E.bO, al := E1.al }
/-- sorted(d) -/
theorem wf_dsort {i : Nat} {kvs : List (D × D)} {Φ : Nat → List D → Prop} (h0 : ρ[i]? = some (.dic kvs)) (hp : plainAll (kvs.map (·.1)) = true) (hal : PySem.W.AllAlike ((kvs.map (·.1)).map dpy)) (hk : PySem.W.Sortable ((kvs.map (·.1)).map dpy)) (hL : kvs.length ≤ sizeLine)
    (hd : ∀ d ∈ kvs.map (·.1), (dpy d).depth ≤ 50) (k : Φ n (sortD (kvs.map (·.1)))) : WF c (tCB (rSortN c.pr c.wd c.K) (tCons (tVar i) tNil)) ρ n Φ := fun P L σ H Q E q => by
  obtain ⟨l, h1, hL', h2⟩ := E.dic_get h0
  refine ⟨.ref l, h1, L ++ c.O, l, kvs, rfl, h2, hp, hal, hk, hL, hd, fun p ys hpn hy => ?_⟩
  have T := E.newT (o := .lst ys) hpn
  exact q p ys _ n _ T.1 hpn upd_same (by rw [hid_new_in hpn]; exact hy) T.2.1 k
end
end L3
/-! L3l: defs with defaults, keyword calls, defs as callers see them, small rules. -/
namespace L3
open PySem L2
section
variable {P : Program} {w : World} {K : PySem.W.Frag} {mg : Str → Option Value} {base : Heap}
/-- a def with defaults by its body, over data -/
theorem fn_DD {x qual : Str} {st : Stmt} {f : Addr} {fd : FuncData} {N ps : List Str} {k : Nat} {S : Spec} {dvs : List V} (F : FunD K x qual (defArgs st) (defBody st) (defScope st) dvs [] f fd) (sc : FnScope N ps (defScope st))
    (len : ∀ bag n ds Φ, S bag n ds Φ → ds.length = ps.length)
    (body : ∀ (cdv : Value) (A : Around) (outer : List PySem.Env) (s : Shared) (H : Hp) (E : XK) (O : List Addr) (bag : Option (Addr × Addr)) (n : Nat) (ds : List D) (Φ : Nat → D → Prop), Room k (A.deeper (PyProof.Rows.envOfC qual (defScope st) s.heap.objs.size f cdv)) → S bag n ds Φ →
      ∃ t, PSs (cxOf CX0 P w K mg base N qual (defScope st) f cdv A outer s H E).nox (defBody st) t ∧ WS ⟨P, w, K, O, bag, H⟩ t (rho N ds) n { nx := fun n' _ => Φ n' .non, rt := Φ }) :
    FnOk P w K mg base CX0 (k + 1) f fd ps (spD K S) := by
  refine F.ok sc (fun vs H Q E h => ?_) (fun cdv A outer s H vs Q E hr h => ?_)
  · obtain ⟨O, bag, n, ds, Φ, _, _, r, hS, _⟩ := h
    rw [r.length]; exact len bag n ds Φ hS
  · obtain ⟨O, bag, n, ds, Φ, hb, hO, r, hS, q⟩ := h
    obtain ⟨t, ht, W⟩ := body cdv A outer s H E O bag n ds Φ hr hS
    refine ⟨t, ht.nox, W (fun _ => none) [] _ H _ ?_ ?_⟩
    · have e : L2.start N vs = vs.map some ++ List.replicate (N.length - ds.length) none := by unfold L2.start; rw [r.length]
      exact { nd := List.nodup_nil, fresh := (fun l hl => nomatch hl), slots := ⟨[], by rw [e]; exact slots_start r, List.Sublist.refl _⟩, lst := (fun l hl => nomatch hl), bag := fun b q e => (hb b q e).1, base := Same.refl _,
              pers := (fun _ _ e => nomatch e), bO := fun b q e => (hb b q e).2, al := hO }
    · exact { nx := fun L n' H' σ ρ E k => q .non .non n' H' E.base (fun b q e => E.bag b q e) .non k,
              rt := fun v d n' H' s j r k => q v d n' H' s j r k, bk := fun _ _ _ _ _ _ k => k.elim, ct := fun _ _ _ _ _ _ k => k.elim }
end
section
variable {c : Ctx} {ρ : List SD} {n : Nat} {as tk : TA} {Φ : Nat → D → Prop}
theorem we_ty {T : String} (k : Φ n (.ty T)) : WE c (tC (.ty T)) ρ n Φ := fun P L σ H Q E q => q _ _ n H (Same.refl _) E.bag (.ty T) k
theorem we_callK {S : Spec} {gV : List V → List V → List V} {XE : XK} (h : WA c as ρ n fun n1 ds => WA c tk ρ n1 fun n2 es => ∃ fs, (∀ H vs zs, RpAll c.K H vs ds → RpAll c.K H zs es → RpAll c.K H (gV vs zs) fs) ∧ S c.bag n2 fs Φ) : WE c (tCallK (spD c.K S) gV XE as tk) ρ n Φ := fun P L σ H Q E q => by
  refine h P L σ H _ E fun vs ds n1 H1 s1 j1 r1 h1 => ?_
  have E1 := E.step s1 j1
  refine h1 P L σ H1 _ E1 fun zs es n2 H2 s2 j2 r2 ⟨fs, g, k⟩ => ?_
  have E2 := E1.step s2 j2
  refine ⟨L ++ c.O, c.bag, n2, fs, Φ, fun b q hb => ⟨j2 b q hb, List.mem_append_right _ (E.bO b q hb).1, List.mem_append_right _ (E.bO b q hb).2.1, (E.bO b q hb).2.2⟩, E2.alLO, g _ _ _ (E1.ups (n' := n1) (H2 := H) s2 r1) r2, k, fun v d n3 H3 s3 j3 r3 k3 => ?_⟩
  exact q v d n3 H3 ((s1.trans s2).trans s3) j3 r3 k3
/-- a def as its callers see it -/
structure Dn (P : Program) (w : World) (K : PySem.W.Frag) (mg : Str → Option Value) (base : Heap) (x : Str) (k : Nat) (ps : List Str) (dv : List V) (dw : List Value) (S : L3.Spec) where
  f : Addr
  fd : FuncData
  G : FnOk P w K mg base CX0 k f fd ps (spD K S)
  m : mg x = some (.ref f)
  k : PySem.W.keepIn K (.ref f) = true
  b : Binds K fd ps dw
  v : Vals dv dw
theorem cut_to {xs : List D} {i : Nat} (h : i ≤ xs.length) : cutD xs none (some (i : Int)) = xs.take i := by
  unfold cutD
  have e : HT.sIx xs.length xs.length (some (i : Int)) = i := by rw [HT.sIx_nat]; omega
  rw [e]
  have e0 : HT.sIx xs.length 0 none = 0 := rfl
  rw [e0]; simp
theorem cut_map {α : Type} (f : α → D) (xs : List α) (lo hi : Option Int) : ∃ ys : List α, cutD (xs.map f) lo hi = ys.map f ∧ ys.Sublist xs := by
  unfold cutD
  rw [← List.map_drop, ← List.map_take]
  exact ⟨_, rfl, (List.take_sublist _ _).trans (List.drop_sublist _ _)⟩
end
/-- a def with a raw promise, as its callers see it -/
structure Dr (P : Program) (w : World) (K : PySem.W.Frag) (mg : Str → Option Value) (base : Heap) (x : Str) (k : Nat) (ps : List Str) (S : Sp) where
  f : Addr
  fd : FuncData
  G : FnOk P w K mg base CX0 k f fd ps S
  m : mg x = some (.ref f)
  k : PySem.W.keepIn K (.ref f) = true
  b : Binds K fd ps []
  v : Vals [] []
theorem we_slA {c : Ctx} {ρ : List SD} {n : Nat} {tl th : TO} {Φ : Nat → D → Prop} {i : Nat} {a : Addr} {ns : List Int} (hB : c.bag = none) (hS : SqL c.K c.H0 a (ns.map V.int)) (hi : ρ[i]? = some (.val (.adr a)))
    (h : WO c tl ρ n fun n2 lo => WO c th ρ n2 fun n3 hi => Φ n3 (.lst (cutD (ns.map .int) lo hi))) : WE c (tSl (rSlS3 c.K) (tVar i) tl th) ρ n Φ := fun P L σ H Q E q => by
  refine we_var (Φ := fun n1 d => n1 = n ∧ d = .adr a) hi ⟨rfl, rfl⟩ P L σ H _ E fun x d n1 H1 s1 j1 r1 ⟨e1, e2⟩ => ?_
  subst e1; subst e2
  have E1 := E.step s1 j1
  refine h P L σ H1 _ E1 fun lo n2 H2 s2 j2 h2 => ?_
  have E2 := E1.step s2 j2
  refine h2 P L σ H2 _ E2 fun hi n3 H3 s3 j3 k => ?_
  have E3 := E2.step s3 j3
  have s := (s1.trans s2).trans s3
  cases r1
  have hb : Same c.H0 H3 := fun o u e => by
    have hz : o ∉ c.B := fun q => by
      unfold Ctx.B at q
      rw [hB] at q
      cases q
    exact (hid_some.mp (E3.base o u (hid_some.mpr ⟨hz, e⟩))).2
  refine .inl ⟨_, _, rfl, same_l hb hS, fun p hp => ?_⟩
  have z := E3.newT (o := .lst (cutV (ns.map V.int) lo hi)) hp
  have ra : ∀ (H : Hp) (ns : List Int), RpAll c.K H (ns.map V.int) (ns.map D.int) := fun H ns => by
    induction ns with
    | nil => exact .nil
    | cons x ns ih => exact .cons (.int x) ih
  exact q _ _ n3 _ (s.trans z.1) z.2.1 (.lst (.inl (hid_at z.2.2)) ((ra _ ns).cut lo hi)) k
theorem we_neg {c : Ctx} {ρ : List SD} {n : Nat} {ta : TE} {Φ : Nat → D → Prop} (h : WE c ta ρ n fun n1 d => ∃ i, d = .int i ∧ Φ n1 (.int (-i))) : WE c (tUn (rU fun i => .int (-i)) ta) ρ n Φ := we_un (h.mono fun n1 d ⟨i, e, k⟩ O H x Q r no q => by
  subst e
  cases r
  exact ⟨i, rfl, q _ _ H (Same.refl _) (.int _) k⟩)
theorem fit_list {ds : List D} (h : ∀ d ∈ ds, fit d = true ∧ (dpy d).depth ≤ 60) : fit (.lst ds) = true ∧ fit (.tup ds) = true := by
  have hp : plainAll ds = true := by
    induction ds with
    | nil => rfl
    | cons x ds ih =>
      show (plain x && plainAll ds) = true
      rw [fit_p (h x List.mem_cons_self).1, ih fun d hd => h d (List.mem_cons_of_mem _ hd)]; rfl
  have hc : PyData.canLayAll0 (dpyAll ds) = true ∧ PyData.depthAll (dpyAll ds) ≤ 60 := by
    clear hp
    induction ds with
    | nil => exact ⟨rfl, Nat.zero_le _⟩
    | cons x ds ih =>
      obtain ⟨i1, i2⟩ := ih fun d hd => h d (List.mem_cons_of_mem _ hd)
      have hx := h x List.mem_cons_self
      refine ⟨?_, ?_⟩
      · show (PyData.canLay0 (dpy x) && PyData.canLayAll0 (dpyAll ds)) = true
        rw [SeqAt.canLay_of_shaped (fit_s hx.1), i1]; rfl
      · show max (PyData.depth (dpy x)) (PyData.depthAll (dpyAll ds)) ≤ 60
        exact Nat.max_le.mpr ⟨hx.2, i2⟩
  have sh : SeqAt.shaped (dpy (.lst ds)) = true ∧ SeqAt.shaped (dpy (.tup ds)) = true := by
    unfold SeqAt.shaped
    have d1 : (dpy (.lst ds)).depth = PyData.depthAll (dpyAll ds) + 1 := rfl
    have d2 : (dpy (.tup ds)).depth = PyData.depthAll (dpyAll ds) + 1 := rfl
    have c1 : (dpy (.lst ds)).canLay0 = PyData.canLayAll0 (dpyAll ds) := rfl
    have c2 : (dpy (.tup ds)).canLay0 = PyData.canLayAll0 (dpyAll ds) := rfl
    rw [d1, d2, c1, c2, hc.1]
    have : decide (PyData.depthAll (dpyAll ds) + 1 ≤ 64) = true := decide_eq_true (by omega)
    rw [this]; exact ⟨rfl, rfl⟩
  unfold fit
  have p1 : plain (.lst ds) = plainAll ds := rfl
  have p2 : plain (.tup ds) = plainAll ds := rfl
  rw [p1, p2, hp, sh.1, sh.2]; exact ⟨rfl, rfl⟩
theorem eq_self {d : D} (h : fit d = true) : eqD d d = true := SeqAt.eqv_refl _ (SeqAt.canLay_of_shaped (fit_s h))
theorem gN_go {i : Nat} {v : V} {σ : L2.St} {H : Hp} {Q : L2.St → Hp → Prop} (h : Q (σ.set i (some v)) H) : gName i v σ H Q := h
end L3
/-! L3m: instances: fields read, methods called, made. -/
namespace L3
open PySem L2
section
variable {K : PySem.W.Frag} {H : Hp}
theorem RpFs.look {f : Str} {d : D} : ∀ {vs : List (Str × V)} {ds : List (Str × D)}, RpFs K H vs ds → ds.lookup f = some d → ∃ v, vs.lookup f = some v ∧ Rp K H v d
  | _, _, .nil, e => by cases e
  | _, _, .cons (x := x) h r, e => by
    rw [List.lookup_cons] at e ⊢
    cases q : (f == x) with
    | true => rw [q] at e; cases e; exact ⟨_, rfl, h⟩
    | false => rw [q] at e; exact r.look e
theorem RpFs.none {f : Str} : ∀ {vs : List (Str × V)} {ds : List (Str × D)}, RpFs K H vs ds → ds.lookup f = none → vs.lookup f = none
  | _, _, .nil, _ => rfl
  | _, _, .cons (x := x) h r, e => by
    rw [List.lookup_cons] at e ⊢
    cases q : (f == x) with
    | true => rw [q] at e; cases e
    | false => rw [q] at e; exact r.none e
theorem RpFs.length : ∀ {vs : List (Str × V)} {ds : List (Str × D)}, RpFs K H vs ds → vs.length = ds.length
  | _, _, .nil => rfl
  | _, _, .cons _ r => by rw [List.length_cons, List.length_cons, r.length]
def putFD (f : Str) (d : D) : List (Str × D) → List (Str × D)
  | [] => [(f, d)]
  | (g, x) :: r => if g = f then (g, d) :: r else (g, x) :: putFD f d r
theorem RpFs.put {f : Str} {v : V} {d : D} (h : Rp K H v d) : ∀ {vs : List (Str × V)} {ds : List (Str × D)}, RpFs K H vs ds → RpFs K H (putF f v vs) (putFD f d ds)
  | _, _, .nil => .cons h .nil
  | _, _, .cons (x := x) h0 r => by
    show RpFs K H (if x = f then (x, v) :: _ else _) (if x = f then (x, d) :: _ else _)
    by_cases q : x = f
    · rw [if_pos q, if_pos q]; exact .cons h r
    · rw [if_neg q, if_neg q]; exact .cons h0 (r.put h)
end
section
variable {c : Ctx} {ρ : List SD} {n : Nat} {te to : TE} {as : TA} {Φ : Nat → D → Prop}
theorem we_fld {C : Addr} {f : Str} (cl : Cls c.K C) (na : NoAttr c.K C f) (h : WE c te ρ n fun n1 x => ∃ ds, x = .obj C ds ∧ ∃ d, ds.lookup f = some d ∧ Φ n1 d) : WE c (tFld c.K te f) ρ n Φ := fun P L σ H Q E q => by
  refine h P L σ H _ E fun x d n1 H1 s1 j1 r1 ⟨ds, e, d2, hl, k⟩ => ?_
  subst e
  cases r1 with
  | obj h1 hf =>
    obtain ⟨v, hv, rv⟩ := hf.look hl
    exact ⟨_, C, _, _, v, rfl, (hid_some.mp h1).2, cl, na, hv, q v d2 n1 H1 s1 j1 rv k⟩
theorem we_meth {C : Addr} {m : Str} {S : L3.Spec} {dvs : List V} {dds : List D} {XE : XK} (hd : ∀ H, RpAll c.K H dvs dds)
    (h : WE c to ρ n fun n1 x => ∃ ds, x = .obj C ds ∧ ds.lookup m = none ∧ WA c as ρ n1 fun n2 es => S c.bag n2 (.obj C ds :: (es ++ dds)) Φ) : WE c (tMeth C m (spD c.K S) dvs XE to as) ρ n Φ := fun P L σ H Q E q => by
  refine h P L σ H _ E fun x d n1 H1 s1 j1 r1 ⟨ds, e, hn, ha⟩ => ?_
  subst e
  have E1 := E.step s1 j1
  cases r1 with
  | obj h1 hf =>
    refine ⟨_, _, _, rfl, (hid_some.mp h1).2, hf.none hn, ?_⟩
    refine ha P L σ H1 _ E1 fun vs es n2 H2 s2 j2 r2 k => ?_
    have E2 := E1.step s2 j2
    refine ⟨L ++ c.O, c.bag, n2, _, Φ, fun b q hb => ⟨j2 b q hb, List.mem_append_right _ (E.bO b q hb).1, List.mem_append_right _ (E.bO b q hb).2.1, (E.bO b q hb).2.2⟩, E2.alLO, .cons ((Rp.obj h1 hf).mono (E1.sameLO s2)) (r2.append (hd _)), k, fun v d n3 H3 s3 j3 r3 k3 => ?_⟩
    exact q v d n3 H3 ((s1.trans s2).trans s3) j3 r3 k3
/-- what an __init__ promises, over data -/
abbrev SpecI := Option (Addr × Addr) → Nat → List D → (Nat → List (Str × D) → Prop) → Prop
def spI (K : PySem.W.Frag) (C : Addr) (S : SpecI) : Sp := fun vs H Q _ => ∃ (O : List Addr) (bag : Option (Addr × Addr)) (n : Nat) (ds : List D) (Φ : Nat → List (Str × D) → Prop) (p dx : Addr) (ws : List V),
  vs = .ref p :: ws ∧ H p = some (.ins C dx []) ∧ p ∉ O ∧ (∀ b q, bag = some (b, q) → BagOk b q n H ∧ b ∈ O ∧ q ∈ O ∧ q ≠ b) ∧ (∀ o ∈ O, H o ≠ none) ∧ RpAll K (hid (p :: O) H) ws ds ∧ S bag n ds Φ ∧
  ∀ fs ks n' H', Same (hid (p :: (bag.map (·.1)).toList) H) (hid (p :: (bag.map (·.1)).toList) H') → (∀ b q, bag = some (b, q) → BagOk b q n' H') → H' p = some (.ins C dx fs) → RpFs K (hid (p :: O) H') fs ks → Φ n' ks → Q .non H'
theorem we_make {C : Addr} {S : SpecI} {dvs : List V} {dds : List D} {XE : XK} (hd : ∀ H, RpAll c.K H dvs dds) (h : WA c as ρ n fun n1 ds => S c.bag n1 (ds ++ dds) fun n2 ks => Φ n2 (.obj C ks)) : WE c (tMake C (spI c.K C S) dvs XE as) ρ n Φ := fun P L σ H Q E q => by
  refine h P L σ H _ E fun vs ds n1 H1 s1 j1 r1 k => ?_
  have E1 := E.step s1 j1
  intro x dx nx ndx nex
  have xO : x ∉ L ++ c.O := E1.noO x nx
  have keep : ∀ a o, H1 a = some o → (upd (upd H1 dx (.own x)) x (.ins C dx [])) a = some o := fun a o e => by
    rw [upd_ne (fun z : a = x => by rw [z, nx] at e; cases e), upd_ne (fun z : a = dx => by rw [z, ndx] at e; cases e)]
    exact e
  have sm : Same (hid (L ++ c.O) H1) (hid (x :: (L ++ c.O)) (upd (upd H1 dx (.own x)) x (.ins C dx []))) := fun a o e => by
    obtain ⟨e1, e2⟩ := hid_some.mp e
    refine hid_some.mpr ⟨fun z => ?_, keep a o e2⟩
    rcases List.mem_cons.mp z with z | z
    · rw [z, nx] at e2; cases e2
    · exact e1 z
  refine ⟨L ++ c.O, c.bag, n1, ds ++ dds, _, x, dx, vs ++ dvs, rfl, upd_same, xO, fun b q hb => ⟨(j1 b q hb).move (fun o e => keep b o e) (fun o e => keep q o e), List.mem_append_right _ (E.bO b q hb).1, List.mem_append_right _ (E.bO b q hb).2.1, (E.bO b q hb).2.2⟩, fun o ho => ?_, (r1.mono sm).append (hd _), k, fun fs ks n2 H3 s3 j3 hx hf kk => ⟨rfl, ?_⟩⟩
  · cases e : H1 o with
    | none => exact absurd e (E1.alLO o ho)
    | some u => rw [keep o u e]; exact fun z => nomatch z
  · refine q (.ref x) (.obj C ks) n2 H3 (s1.trans fun a o e => ?_) j3 (.obj (dx := dx) (hid_some.mpr ⟨xO, hx⟩) (hf.mono (same_hid_sub fun a ha => List.mem_cons_of_mem _ ha))) kk
    obtain ⟨e1, e2⟩ := hid_some.mp e
    have ne : a ≠ x := fun z => by rw [z, nx] at e2; cases e2
    have z := s3 a o (hid_some.mpr ⟨fun z => by
      rcases List.mem_cons.mp z with z | z
      · exact ne z
      · exact e1 z, keep a o e2⟩)
    exact hid_some.mpr ⟨e1, (hid_some.mp z).2⟩
end
end L3
/-! L3n: __init__: field by field. -/
namespace L3
open PySem L2
abbrev bagB (bag : Option (Addr × Addr)) : List Addr := (bag.map (·.1)).toList
def flat : List SD → Bool
  | [] => true
  | .un :: r => flat r
  | .val _ :: r => flat r
  | _ :: _ => false
theorem Slots.flat {pr : Program} {wd : World} {K : PySem.W.Frag} {O : List Addr} {H : Hp} : ∀ {σ : List (Option V)} {ρ : List SD} {L : List Addr}, Slots pr wd K O H σ ρ L → L3.flat ρ = true → L = []
  | _, _, _, .nil, _ => rfl
  | _, _, _, .un s, h => Slots.flat s h
  | _, _, _, .val _ s, h => Slots.flat s h
  | _, _, _, .own _ _ _, h => by cases h
  | _, _, _, .dic _ _, h => by cases h
  | _, _, _, .dk _ _, h => by cases h
  | _, _, _, .tw _ _, h => by cases h
  | _, _, _, .ot _ _ _, h => by cases h
/-- any statement that is never reached -/
theorem ps_never {X : Cx} {st : Stmt} : PS X st (fun _ _ _ => False) := ⟨fun _ _ _ _ _ _ h => h.elim⟩
section
variable {P : Program} {w : World} {K : PySem.W.Frag} {mg : Str → Option Value} {base : Heap} {O : List Addr} {bag : Option (Addr × Addr)} {p C dx : Addr} {ρ : List SD} {n : Nat} {ks : List (Str × D)} {Φ : Nat → List (Str × D) → Prop} {te : TE} {ts us : TS} {f : Str}
def WN (P : Program) (w : World) (K : PySem.W.Frag) (O : List Addr) (bag : Option (Addr × Addr)) (p C dx : Addr) (ts : TS) (ρ : List SD) (n : Nat) (ks : List (Str × D)) (Φ : Nat → List (Str × D) → Prop) : Prop :=
  ∀ (H : Hp) (σ : List (Option V)) (fs : List (Str × V)) (Dn : Ends), H p = some (.ins C dx fs) → p ∉ O → RpFs K (hid (p :: O) H) fs ks → Env ⟨P, w, K, p :: O, bag, H⟩ (fun _ => none) [] n H σ ρ →
  (∀ σ' fs' ks' n' H', Same (hid (p :: bagB bag) H) (hid (p :: bagB bag) H') → (∀ b q, bag = some (b, q) → BagOk b q n' H') → H' p = some (.ins C dx fs') → RpFs K (hid (p :: O) H') fs' ks' → Φ n' ks' → Dn.nx σ' H') → ts Dn σ H
/-- one store -/
theorem wn_go {H : Hp} {σ : List (Option V)} {fs : List (Str × V)} {Q : List (Option V) → Hp → Prop} {Dn : Ends} (cl : Cls K C) (na : NoAttr K C f) (hl : ks.length < 1000) (hs : ρ[0]? = some (.val (.adr p)))
    (hp : H p = some (.ins C dx fs)) (pO : p ∉ O) (hf : RpFs K (hid (p :: O) H) fs ks) (E : Env ⟨P, w, K, p :: O, bag, H⟩ (fun _ => none) [] n H σ ρ) {Ψ : Nat → D → Prop} (h : WE ⟨P, w, K, p :: O, bag, H⟩ te ρ n Ψ)
    (k : ∀ y d n1 H3, Ψ n1 d → Same (hid (p :: bagB bag) H) (hid (p :: bagB bag) H3) → H3 p = some (.ins C dx (putF f y fs)) → RpFs K (hid (p :: O) H3) (putF f y fs) (putFD f d ks) → Env ⟨P, w, K, p :: O, bag, H3⟩ (fun _ => none) [] n1 H3 σ ρ → Dn.nx σ H3) : sFld K (tVar 0) te f Dn σ H := by
  refine h (fun _ => none) [] σ H _ E fun y d n1 H1 s1 j1 r1 kk => ?_
  have E1 := E.step s1 j1
  refine we_var (c := ⟨P, w, K, p :: O, bag, H⟩) (n := n1) (Φ := fun m z => m = n1 ∧ z = .adr p) hs ⟨rfl, rfl⟩ (fun _ => none) [] σ H1 _ E1 fun x d2 n2 H2 s2 j2 r2 ⟨e1, e2⟩ => ?_
  subst e1; subst e2
  cases r2
  have E2 := E1.step s2 j2
  have s12 := s1.trans s2
  have pB : p ∉ bagB bag := fun z => by
    obtain ⟨q, hq⟩ := (mem_B (c := ⟨P, w, K, p :: O, bag, H⟩)).mp z
    obtain ⟨xs, hx⟩ := (E.bag p q hq).lst
    rw [hp] at hx; cases hx
  have hp2 : H2 p = some (.ins C dx fs) := (hid_some.mp (s12 p _ (hid_some.mpr ⟨pB, hp⟩))).2
  have hb : ∀ b q, bag = some (b, q) → BagOk b q n2 (upd H2 p (.ins C dx (putF f y fs))) := fun b q e => by
    have B := E2.bag b q e
    refine B.move (fun o ho => ?_) (fun o ho => ?_)
    · rw [upd_ne (fun z : b = p => by obtain ⟨xs, hx⟩ := B.lst; rw [z, hp2] at hx; cases hx)]; exact ho
    · rw [upd_ne (fun z : q = p => by obtain ⟨_, _, _, _, hx, _⟩ := B; rw [z, hp2] at hx; cases hx)]; exact ho
  have hh : hid (p :: O) (upd H2 p (.ins C dx (putF f y fs))) = hid (p :: O) H2 := hid_upd_in List.mem_cons_self
  refine ⟨p, C, dx, fs, rfl, hp2, cl, na, by rw [hf.length]; exact hl, ?_⟩
  refine k y d n2 _ kk (fun a o e => ?_) upd_same ?_ ?_
  · obtain ⟨e1, e2⟩ := hid_some.mp e
    have ne : a ≠ p := fun z => e1 (z ▸ List.mem_cons_self)
    have z := s12 a o (hid_some.mpr ⟨fun z => e1 (List.mem_cons_of_mem _ z), e2⟩)
    exact hid_some.mpr ⟨e1, by rw [upd_ne ne]; exact (hid_some.mp z).2⟩
  · rw [hh]
    exact ((hf.mono (E.sameLO s12)).put (r1.mono (E1.sameLO s2)))
  · obtain ⟨Ls, sl, sb⟩ := E2.slots
    have eL : Ls = [] := List.eq_nil_of_sublist_nil sb
    subst eL
    exact { nd := List.nodup_nil, fresh := (fun l hl => nomatch hl), slots := ⟨[], sl.move (fun l hl => nomatch hl) (by show Same (hid (p :: O) H2) (hid (p :: O) _); rw [hh]; exact Same.refl _), List.Sublist.refl _⟩, lst := (fun l hl => nomatch hl), bag := hb, base := Same.refl _,
            pers := (fun _ _ e => nomatch e), bO := E2.bO, al := fun o ho => by
              by_cases z : o = p
              · rw [z, upd_same]; exact fun z => nomatch z
              · rw [upd_ne z]; exact E2.al o ho }
theorem wn_st (cl : Cls K C) (na : NoAttr K C f) (hl : ks.length < 1000) (hs : ρ[0]? = some (.val (.adr p))) (h : ∀ H0, WE ⟨P, w, K, p :: O, bag, H0⟩ te ρ n fun n1 d => Φ n1 (putFD f d ks)) : WN P w K O bag p C dx (sFld K (tVar 0) te f) ρ n ks Φ := fun H σ fs Dn hp pO hf E q =>
  wn_go (Q := fun _ _ => True) cl na hl hs hp pO hf E (h H) fun y d n1 H3 kk s hp3 hf3 E3 => q σ _ _ n1 H3 s E3.bag hp3 hf3 kk
theorem wn_seq (cl : Cls K C) (na : NoAttr K C f) (hl : ks.length < 1000) (hs : ρ[0]? = some (.val (.adr p))) (h : ∀ H0, WE ⟨P, w, K, p :: O, bag, H0⟩ te ρ n fun n1 d => WN P w K O bag p C dx us ρ n1 (putFD f d ks) Φ) : WN P w K O bag p C dx (tSeq (sFld K (tVar 0) te f) us) ρ n ks Φ := fun H σ fs Dn hp pO hf E q =>
  wn_go (Q := fun _ _ => True) (Dn := { Dn with nx := us Dn }) cl na hl hs hp pO hf E (h H) fun y d n1 H3 kk s hp3 hf3 E3 => kk H3 σ _ Dn hp3 pO hf3 E3 fun σ' fs' ks' n' H' s' b' hp' hf' kk' => q σ' fs' ks' n' H' (s.trans s') b' hp' hf' kk'
/-- statements ahead of the stores -/
theorem wn_pre (h : ∀ H0, WS ⟨P, w, K, p :: O, bag, H0⟩ ts ρ n { nx := fun n1 ρ1 => flat ρ1 = true ∧ WN P w K O bag p C dx us ρ1 n1 ks Φ, rt := fun _ _ => False }) : WN P w K O bag p C dx (tSeq ts us) ρ n ks Φ := fun H σ fs Dn hp pO hf E q => by
  refine h H (fun _ => none) [] σ H { Dn with nx := us Dn } E { nx := fun L n1 H1 σ1 ρ1 E1 ⟨hfl, hn⟩ => ?_, rt := fun _ _ _ _ _ _ _ h => h.elim, bk := fun _ _ _ _ _ _ h => h.elim, ct := fun _ _ _ _ _ _ h => h.elim }
  have pB : p ∉ bagB bag := fun z => by
    obtain ⟨q, hq⟩ := (mem_B (c := ⟨P, w, K, p :: O, bag, H⟩)).mp z
    obtain ⟨xs, hx⟩ := (E.bag p q hq).lst
    rw [hp] at hx; cases hx
  have hp1 : H1 p = some (.ins C dx fs) := (hid_some.mp (E1.base p _ (hid_some.mpr ⟨pB, hp⟩))).2
  have bO : ∀ a, a ∈ bagB bag → a ∈ p :: O := fun a ha => E.inO (show a ∈ (⟨P, w, K, p :: O, bag, H⟩ : Ctx).B from ha)
  have s0 : Same (hid (p :: O) H) (hid (p :: O) H1) := same_hid_more bO E1.base
  obtain ⟨Ls, sl, sb⟩ := E1.slots
  have eL := sl.flat hfl
  subst eL
  refine hn H1 σ1 fs Dn hp1 pO (hf.mono s0) ?_ fun σ' fs' ks' n' H' s' b' hp' hf' kk' => q σ' fs' ks' n' H' ((same_hid_more (fun a ha => List.mem_cons_of_mem _ ha) E1.base).trans s') b' hp' hf' kk'
  exact { nd := List.nodup_nil, fresh := (fun l hl => nomatch hl), slots := ⟨[], sl.move (fun l hl => nomatch hl) (same_hid_sub fun a ha => List.mem_append_right _ ha), List.Sublist.refl _⟩, lst := (fun l hl => nomatch hl), bag := E1.bag, base := Same.refl _,
          pers := (fun _ _ e => nomatch e), bO := E1.bO, al := E1.al }
/-- THE RULE for an __init__, over data -/
theorem fn_I {x qual : Str} {st : Stmt} {fa : Addr} {fd : FuncData} {N ps : List Str} {k : Nat} {S : SpecI} (F : Fun K x qual st fa fd) (sc : FnScope N ps (defScope st))
    (len : ∀ bag n ds Φ, S bag n ds Φ → ds.length + 1 = ps.length)
    (body : ∀ (cdv : Value) (A : Around) (outer : List PySem.Env) (s : Shared) (H : Hp) (E : XK) (O : List Addr) (bag : Option (Addr × Addr)) (n : Nat) (ds : List D) (Φ : Nat → List (Str × D) → Prop) (p dx : Addr), Room k (A.deeper (PyProof.Rows.envOfC qual (defScope st) s.heap.objs.size fa cdv)) → S bag n ds Φ →
      ∃ t, PSs (cxOf CX0 P w K mg base N qual (defScope st) fa cdv A outer s H E).nox (defBody st) t ∧ WN P w K O bag p C dx t (rho N (.adr p :: ds)) n [] Φ) :
    FnOk P w K mg base CX0 (k + 1) fa fd ps (spI K C S) := by
  refine F.ok sc (fun vs H Q E h => ?_) (fun cdv A outer s H vs Q E hr h => ?_)
  · obtain ⟨O, bag, n, ds, Φ, p, dx, ws, rfl, _, _, _, _, r, hS, _⟩ := h
    rw [List.length_cons, r.length]; exact len bag n ds Φ hS
  · obtain ⟨O, bag, n, ds, Φ, p, dx, ws, rfl, hp, pO, hb, hO, r, hS, q⟩ := h
    obtain ⟨t, ht, W⟩ := body cdv A outer s H E O bag n ds Φ p dx hr hS
    refine ⟨t, ht, W H _ [] _ hp pO .nil ?_ fun σ' fs' ks' n' H' s' b' hp' hf' kk' => q fs' ks' n' H' s' b' hp' hf' kk'⟩
    have r' : RpAll K (hid (p :: O) H) (.ref p :: ws) (.adr p :: ds) := .cons (.adr p) r
    have e : L2.start N (.ref p :: ws) = (.ref p :: ws).map some ++ List.replicate (N.length - (D.adr p :: ds).length) none := by unfold L2.start; rw [r'.length]
    exact { nd := List.nodup_nil, fresh := (fun l hl => nomatch hl), slots := ⟨[], by rw [e]; exact slots_start r', List.Sublist.refl _⟩, lst := (fun l hl => nomatch hl), bag := fun b q e => (hb b q e).1, base := Same.refl _,
            pers := (fun _ _ e => nomatch e), bO := fun b q e => ⟨List.mem_cons_of_mem _ (hb b q e).2.1, List.mem_cons_of_mem _ (hb b q e).2.2.1, (hb b q e).2.2.2⟩,
            al := fun o ho => by
              rcases List.mem_cons.mp ho with z | z
              · rw [z, hp]; exact fun z => nomatch z
              · exact hO o z }
end
end L3
/-! L3o: dicts with int and text keys: as data, as one's own. -/
namespace L3
open PySem L2
section
variable {c : Ctx} {ρ : List SD} {n : Nat} {ta tb te td ty tx : TE} {t u : TT} {as : TA} {Φ : Nat → D → Prop} {Ψ : Out} {ts us : TS}
def keyK : D → Option L2.Key
  | .int i => some (.inl i)
  | .str x => some (.inr x)
  | _ => none
theorem keyK_V {K : PySem.W.Frag} {H : Hp} {v : V} {d : D} {k : L2.Key} (r : Rp K H v d) (h : keyK d = some k) : v = kV k := by
  cases r <;> first | (cases h; rfl) | cases h
def lookK (kvs : List (L2.Key × D)) (k : L2.Key) : Option D := (kvs.find? fun kv => decide (kv.1 = k)).map (·.2)
def putKD (kvs : List (L2.Key × D)) (k : L2.Key) (d : D) : List (L2.Key × D) := if (kvs.any fun kv => decide (kv.1 = k)) = true then kvs.map (fun kv => if kv.1 = k then (kv.1, d) else kv) else kvs ++ [(k, d)]
section
variable {K : PySem.W.Frag} {H : Hp}
theorem RpKs.length : ∀ {xs : List (L2.Key × V)} {kvs : List (L2.Key × D)}, RpKs K H xs kvs → xs.length = kvs.length
  | _, _, .nil => rfl
  | _, _, .cons _ r => by rw [List.length_cons, List.length_cons, r.length]
theorem RpKs.look {k : L2.Key} : ∀ {xs : List (L2.Key × V)} {kvs : List (L2.Key × D)}, RpKs K H xs kvs → (∀ d, lookK kvs k = some d → ∃ v, valV xs k = some v ∧ Rp K H v d) ∧ (lookK kvs k = none → valV xs k = none)
  | _, _, .nil => ⟨fun d e => by simp [lookK] at e, fun _ => rfl⟩
  | _, _, .cons (x := x) h r => by
    obtain ⟨i1, i2⟩ := RpKs.look (k := k) r
    unfold lookK valV at *
    by_cases q : x = k
    · subst q
      simp only [List.find?_cons, decide_true]
      exact ⟨fun d e => by cases e; exact ⟨_, rfl, h⟩, fun e => by cases e⟩
    · simp only [List.find?_cons, decide_eq_false q]
      exact ⟨i1, i2⟩
theorem RpKs.any {k : L2.Key} : ∀ {xs : List (L2.Key × V)} {kvs : List (L2.Key × D)}, RpKs K H xs kvs → (xs.any fun kv => decide (kv.1 = k)) = kvs.any fun kv => decide (kv.1 = k)
  | _, _, .nil => rfl
  | _, _, .cons _ r => by rw [List.any_cons, List.any_cons, r.any]
theorem RpKs.repl {k : L2.Key} {v : V} {d : D} (h : Rp K H v d) : ∀ {xs : List (L2.Key × V)} {kvs : List (L2.Key × D)}, RpKs K H xs kvs → RpKs K H (xs.map fun kv => if kv.1 = k then (kv.1, v) else kv) (kvs.map fun kv => if kv.1 = k then (kv.1, d) else kv)
  | _, _, .nil => .nil
  | _, _, .cons (x := x) (v := v0) (vs := vs) (d := d0) (ds := ds) h0 r => by
    have ih := RpKs.repl (k := k) h r
    show RpKs K H ((if x = k then (x, v) else (x, v0)) :: _) ((if x = k then (x, d) else (x, d0)) :: _)
    by_cases q : x = k
    · rw [if_pos q, if_pos q]; exact .cons h ih
    · rw [if_neg q, if_neg q]; exact .cons h0 ih
theorem RpKs.snoc {k : L2.Key} {v : V} {d : D} (h : Rp K H v d) : ∀ {xs : List (L2.Key × V)} {kvs : List (L2.Key × D)}, RpKs K H xs kvs → RpKs K H (xs ++ [(k, v)]) (kvs ++ [(k, d)])
  | _, _, .nil => .cons h .nil
  | _, _, .cons h0 r => .cons h0 (RpKs.snoc h r)
theorem RpKs.put {k : L2.Key} {v : V} {d : D} (h : Rp K H v d) {xs : List (L2.Key × V)} {kvs : List (L2.Key × D)} (r : RpKs K H xs kvs) : RpKs K H (putK xs k v) (putKD kvs k d) := by
  unfold putK putKD
  rw [r.any]
  by_cases q : (kvs.any fun kv => decide (kv.1 = k)) = true
  · rw [if_pos q, if_pos q]; exact r.repl h
  · rw [if_neg q, if_neg q]; exact r.snoc h
end
theorem Slots.freezeK {pr : Program} {wd : World} {K : PySem.W.Frag} {O : List Addr} {H : Hp} {kvs : List (L2.Key × D)} : ∀ {σ : List (Option V)} {ρ : List SD} {L : List Addr} {i : Nat}, Slots pr wd K O H σ ρ L → ρ[i]? = some (.dk kvs) → ∃ L1 l L2 xs, L = L1 ++ l :: L2 ∧ H l = some (.dK xs) ∧ RpKs K (hid O H) xs kvs ∧
    ∀ O' , Same (hid O H) (hid O' H) → l ∉ O' → Slots pr wd K O' H σ (ρ.set i (.val (.dct kvs))) (L1 ++ L2)
  | _, _, _, _, .nil, e => by simp at e
  | _, _, _, 0, .un _, e => by simp at e
  | _, _, _, i + 1, .un s, e => by
    obtain ⟨L1, l, L2, xs, h1, h2, h3, h4⟩ := Slots.freezeK (i := i) s (by simpa using e)
    exact ⟨L1, l, L2, xs, h1, h2, h3, fun O' a b => .un (h4 O' a b)⟩
  | _, _, _, 0, .val _ _, e => by simp at e
  | _, _, _, i + 1, .val r s, e => by
    obtain ⟨L1, l, L2, xs, h1, h2, h3, h4⟩ := Slots.freezeK (i := i) s (by simpa using e)
    exact ⟨L1, l, L2, xs, h1, h2, h3, fun O' a b => .val (r.mono a) (h4 O' a b)⟩
  | _, _, _, 0, .own h r s, e => by simp at e
  | _, _, _, i + 1, .own h r s, e => by
    obtain ⟨L1, l, L2, xs, h1, h2, h3, h4⟩ := Slots.freezeK (i := i) s (by simpa using e)
    exact ⟨_ :: L1, l, L2, xs, by rw [h1]; rfl, h2, h3, fun O' a b => .own h (r.mono a) (h4 O' a b)⟩
  | _, _, _, 0, .dic _ _, e => by simp at e
  | _, _, _, 0, .dk ⟨xs, h, r⟩ s, e => by
    simp at e
    subst e
    exact ⟨[], _, _, _, rfl, h, r, fun O' a b => .val (.dct (.inl (by rw [hid_out b]; exact h)) (r.mono a)) (s.move (fun _ _ => rfl) a)⟩
  | _, _, _, 0, .tw h s, e => by simp at e
  | _, _, _, i + 1, .dic h s, e => by
    obtain ⟨L1, l, L2, xs, h1, h2, h3, h4⟩ := Slots.freezeK (i := i) s (by simpa using e)
    exact ⟨_ :: L1, l, L2, xs, by rw [h1]; rfl, h2, h3, fun O' a b => .dic (h.move rfl a) (h4 O' a b)⟩
  | _, _, _, i + 1, .dk h s, e => by
    obtain ⟨L1, l, L2, xs, h1, h2, h3, h4⟩ := Slots.freezeK (i := i) s (by simpa using e)
    exact ⟨_ :: L1, l, L2, xs, by rw [h1]; rfl, h2, h3, fun O' a b => .dk (h.move rfl a) (h4 O' a b)⟩
  | _, _, _, i + 1, .tw h s, e => by
    obtain ⟨L1, l, L2, xs, h1, h2, h3, h4⟩ := Slots.freezeK (i := i) s (by simpa using e)
    exact ⟨_ :: L1, l, L2, xs, by rw [h1]; rfl, h2, h3, fun O' a b => .tw (h.move rfl a) (h4 O' a b)⟩
  | _, _, _, 0, .ot _ _ _, e => by simp at e
  | _, _, _, i + 1, .ot h q s, e => by
    obtain ⟨L1, l, L2, xs, h1, h2, h3, h4⟩ := Slots.freezeK (i := i) s (by simpa using e)
    exact ⟨_, l, L2, xs, by rw [q, h1, List.append_assoc], h2, h3, fun O' a b => .ot (OT.mv _ h (fun _ _ => rfl) fun _ _ r => r.mono a) (List.append_assoc _ _ _) (h4 O' a b)⟩
theorem Env.freezeK {P : Hp} {L : List Addr} {n : Nat} {H : Hp} {σ : List (Option V)} {i : Nat} {kvs : List (L2.Key × D)} (E : Env c P L n H σ ρ) (h : ρ[i]? = some (.dk kvs)) : ∃ L', Env c P L' n H σ (ρ.set i (.val (.dct kvs))) ∧ L'.Sublist L := by
  obtain ⟨Ls, sl, sb⟩ := E.slots
  obtain ⟨L1, l, L2, xs, h1, h2, h3, h4⟩ := sl.freezeK h
  have lL : l ∈ L := sb.subset (by rw [h1]; simp)
  have sub : (L.erase l).Sublist L := List.erase_sublist
  have nl : l ∉ L.erase l := E.nd.not_mem_erase
  have sb2 : (L1 ++ L2).Sublist (L.erase l) := by
    have nd := sb.nodup E.nd
    rw [h1] at nd
    have n1 : l ∉ L1 := fun q => by
      have := (List.nodup_append.mp nd).2.2 l q l List.mem_cons_self
      exact this rfl
    have q : (Ls.erase l).Sublist (L.erase l) := sb.erase l
    rw [h1, List.erase_append_right _ n1, List.erase_cons_head] at q
    exact q
  have nO : l ∉ (L.erase l) ++ c.O := fun q => by
    rcases List.mem_append.mp q with q | q
    · exact nl q
    · exact (E.fresh l lL).2 q
  have se : Same (hid (L ++ c.O) H) (hid ((L.erase l) ++ c.O) H) := same_hid_sub fun a ha => by
    rcases List.mem_append.mp ha with q | q
    · exact List.mem_append_left _ (sub.subset q)
    · exact List.mem_append_right _ q
  exact ⟨L.erase l, { nd := sub.nodup E.nd, fresh := fun l hl => E.fresh l (sub.subset hl), slots := ⟨_, h4 _ se nO, sb2⟩, lst := fun l hl => E.lst l (sub.subset hl), base := E.base, pers := E.pers.trans se, bO := E.bO, al := E.al, bag := E.bag }, sub⟩
theorem Slots.dk_at {pr : Program} {wd : World} {K : PySem.W.Frag} {O : List Addr} {H : Hp} {kvs lvs : List (L2.Key × D)} : ∀ {σ : List (Option V)} {ρ : List SD} {L : List Addr} {i : Nat}, Slots pr wd K O H σ ρ L → L.Nodup → ρ[i]? = some (.dk kvs) → ∃ l, σ[i]? = some (some (.ref l)) ∧ l ∈ L ∧ KDict pr wd K O H l kvs ∧
    ∀ (o : HO), KDict pr wd K O (upd H l o) l lvs → hid O (upd H l o) = hid O H → Slots pr wd K O (upd H l o) σ (ρ.set i (.dk lvs)) L
  | _, _, _, _, .nil, _, e => by simp at e
  | _, _, _, 0, .un _, _, e => by simp at e
  | _, _, _, i + 1, .un s, nd, e => by
    obtain ⟨l, h1, h2, h3, h5⟩ := Slots.dk_at (i := i) s nd (by simpa using e)
    exact ⟨l, by simpa using h1, h2, h3, fun ys a b => .un (h5 ys a b)⟩
  | _, _, _, 0, .val _ _, _, e => by simp at e
  | _, _, _, i + 1, .val r s, nd, e => by
    obtain ⟨l, h1, h2, h3, h5⟩ := Slots.dk_at (i := i) s nd (by simpa using e)
    exact ⟨l, by simpa using h1, h2, h3, fun ys a b => .val (by rw [b]; exact r) (h5 ys a b)⟩
  | _, _, _, 0, .own _ _ _, _, e => by simp at e
  | _, _, _, i + 1, .own h r s, nd, e => by
    obtain ⟨l, h1, h2, h3, h5⟩ := Slots.dk_at (i := i) s (List.nodup_cons.mp nd).2 (by simpa using e)
    exact ⟨l, by simpa using h1, List.mem_cons_of_mem _ h2, h3, fun ys a b => .own ((upd_ne fun e => (List.nodup_cons.mp nd).1 (by rw [e]; exact h2)).trans h) (by rw [b]; exact r) (h5 ys a b)⟩
  | _, _, _, 0, .dic h s, nd, e => by simp at e
  | _, _, _, 0, .dk h s, nd, e => by
    simp at e
    subst e
    exact ⟨_, rfl, List.mem_cons_self, h, fun ys a b => .dk a (s.move (fun l hl => upd_ne fun e => (List.nodup_cons.mp nd).1 (by rw [← e]; exact hl)) (by rw [b]; exact Same.refl _))⟩
  | _, _, _, 0, .tw h s, nd, e => by simp at e
  | _, _, _, i + 1, .dic h s, nd, e => by
    obtain ⟨l, h1, h2, h3, h5⟩ := Slots.dk_at (i := i) s (List.nodup_cons.mp nd).2 (by simpa using e)
    exact ⟨l, by simpa using h1, List.mem_cons_of_mem _ h2, h3, fun ys a b => .dic (h.move (upd_ne fun e => (List.nodup_cons.mp nd).1 (by rw [e]; exact h2)) (by rw [b]; exact Same.refl _)) (h5 ys a b)⟩
  | _, _, _, i + 1, .dk h s, nd, e => by
    obtain ⟨l, h1, h2, h3, h5⟩ := Slots.dk_at (i := i) s (List.nodup_cons.mp nd).2 (by simpa using e)
    exact ⟨l, by simpa using h1, List.mem_cons_of_mem _ h2, h3, fun ys a b => .dk (h.move (upd_ne fun e => (List.nodup_cons.mp nd).1 (by rw [e]; exact h2)) (by rw [b]; exact Same.refl _)) (h5 ys a b)⟩
  | _, _, _, i + 1, .tw h s, nd, e => by
    obtain ⟨l, h1, h2, h3, h5⟩ := Slots.dk_at (i := i) s (List.nodup_cons.mp nd).2 (by simpa using e)
    exact ⟨l, by simpa using h1, List.mem_cons_of_mem _ h2, h3, fun ys a b => .tw (h.move (upd_ne fun e => (List.nodup_cons.mp nd).1 (by rw [e]; exact h2)) (by rw [b]; exact Same.refl _)) (h5 ys a b)⟩
  | _, _, _, 0, .ot _ _ _, _, e => by simp at e
  | _, _, _, i + 1, .ot h q s, nd, e => by
    subst q
    obtain ⟨l, h1, h2, h3, h5⟩ := Slots.dk_at (i := i) s (List.nodup_append.mp nd).2.1 (by simpa using e)
    exact ⟨l, by simpa using h1, List.mem_append_right _ h2, h3, fun ys a b => .ot (OT.mv _ h (fun x hx => upd_ne fun e => (List.nodup_append.mp nd).2.2 x hx _ h2 e) fun v d r => by rw [b]; exact r) rfl (h5 ys a b)⟩
theorem Env.dk_at {P : Hp} {L : List Addr} {n : Nat} {H : Hp} {σ : List (Option V)} {i : Nat} {kvs : List (L2.Key × D)} (E : Env c P L n H σ ρ) (h : ρ[i]? = some (.dk kvs)) : ∃ l, σ[i]? = some (some (.ref l)) ∧ l ∈ L ++ c.O ∧ KDict c.pr c.wd c.K (L ++ c.O) H l kvs ∧
    ∀ (o : HO) (lvs : List (L2.Key × D)), KDict c.pr c.wd c.K (L ++ c.O) (upd H l o) l lvs → Env c P L n (upd H l o) σ (ρ.set i (.dk lvs)) := by
  obtain ⟨Ls, sl, sb⟩ := E.slots
  have nd := sb.nodup E.nd
  obtain ⟨l, h1, h2, h3, _⟩ := sl.dk_at (lvs := kvs) nd h
  have lL := sb.subset h2
  have hm : l ∈ L ++ c.O := List.mem_append_left _ lL
  have hO : l ∉ c.O := (E.fresh l lL).2
  refine ⟨l, h1, hm, h3, fun o lvs hy => ?_⟩
  have bs : Same (hid c.B c.H0) (hid c.B (upd H l o)) := same_upd_old (E.fresh l lL).1 E.base
  obtain ⟨l', g1, g2, g3, g5⟩ := sl.dk_at (lvs := lvs) nd h
  rw [h1] at g1
  cases g1
  exact { nd := E.nd, fresh := E.fresh, slots := ⟨Ls, g5 o hy (hid_upd_in hm), sb⟩,
          lst := fun a ha => by
            by_cases e : a = l
            · exact ⟨_, by rw [e, upd_same]⟩
            · rw [upd_ne e]; exact E.lst a ha,
          bag := fun b q hb => (E.bag b q hb).move (fun o h => by rw [upd_ne fun e : b = l => hO (e ▸ (E.bO b q hb).1)]; exact h) fun o h => by rw [upd_ne fun e : q = l => hO (e ▸ (E.bO b q hb).2.1)]; exact h,
          base := bs, pers := by rw [hid_upd_in hm]; exact E.pers, bO := E.bO,
          al := fun o ho => by rw [upd_ne fun e : o = l => hO (e ▸ ho)]; exact E.al o ho }
/-! a dict as data -/
theorem we_dget1 (h : WE c td ρ n fun n1 x => ∃ kvs, x = .dct kvs ∧ WE c ty ρ n1 fun n2 y => ∃ k, keyK y = some k ∧ ∃ d, lookK kvs k = some d ∧ Φ n2 d) : WE c (tDGet td ty) ρ n Φ := fun P L σ H Q E q => by
  refine h P L σ H _ E fun x d n1 H1 s1 j1 r1 ⟨kvs, e, h1⟩ => ?_
  subst e
  have E1 := E.step s1 j1
  refine h1 P L σ H1 _ E1 fun y dy n2 H2 s2 j2 r2 ⟨k, hk, d, hl, kk⟩ => ?_
  have r3 := r1.mono (E1.sameLO s2)
  cases r3 with
  | dct hs rk =>
    obtain ⟨v, hv, rv⟩ := rk.look.1 d hl
    exact ⟨_, v, rfl, .inl ⟨_, k, same_rd same_hid hs, keyK_V r2 hk, hv.symm⟩, q v d n2 H2 (s1.trans s2) j2 rv kk⟩
theorem we_din (h : WE c ty ρ n fun n1 y => WE c td ρ n1 fun n2 x => ∃ kvs k, x = .dct kvs ∧ keyK y = some k ∧ Φ n2 (.bl (lookK kvs k).isSome)) : WE c (tDIn ty td) ρ n Φ := fun P L σ H Q E q => by
  refine h P L σ H _ E fun y dy n1 H1 s1 j1 r1 h1 => ?_
  have E1 := E.step s1 j1
  refine h1 P L σ H1 _ E1 fun x d n2 H2 s2 j2 r2 ⟨kvs, k, e, hk, kk⟩ => ?_
  subst e
  cases r2 with
  | dct hs rk =>
    refine ⟨_, _, rfl, .inl ⟨_, k, same_rd same_hid hs, keyK_V (r1.mono (E1.sameLO s2)) hk, rfl⟩, ?_⟩
    cases hl : lookK kvs k with
    | none => rw [rk.look.2 hl]; rw [hl] at kk; exact q _ _ n2 H2 (s1.trans s2) j2 (.bl _) kk
    | some d =>
      obtain ⟨v, hv, _⟩ := rk.look.1 d hl
      rw [hv]; rw [hl] at kk; exact q _ _ n2 H2 (s1.trans s2) j2 (.bl _) kk
theorem we_dnin (h : WE c ty ρ n fun n1 y => WE c td ρ n1 fun n2 x => ∃ kvs k, x = .dct kvs ∧ keyK y = some k ∧ Φ n2 (.bl (!(lookK kvs k).isSome))) : WE c (tDNotIn ty td) ρ n Φ := fun P L σ H Q E q => by
  refine h P L σ H _ E fun y dy n1 H1 s1 j1 r1 h1 => ?_
  have E1 := E.step s1 j1
  refine h1 P L σ H1 _ E1 fun x d n2 H2 s2 j2 r2 ⟨kvs, k, e, hk, kk⟩ => ?_
  subst e
  cases r2 with
  | dct hs rk =>
    refine ⟨_, _, rfl, .inl ⟨_, k, same_rd same_hid hs, keyK_V (r1.mono (E1.sameLO s2)) hk, rfl⟩, ?_⟩
    cases hl : lookK kvs k with
    | none => rw [rk.look.2 hl]; rw [hl] at kk; exact q _ _ n2 H2 (s1.trans s2) j2 (.bl _) kk
    | some d =>
      obtain ⟨v, hv, _⟩ := rk.look.1 d hl
      rw [hv]; rw [hl] at kk; exact q _ _ n2 H2 (s1.trans s2) j2 (.bl _) kk
theorem we_dget2 (h : WE c td ρ n fun n1 x => ∃ kvs, x = .dct kvs ∧ WE c ty ρ n1 fun n2 y => WE c tx ρ n2 fun n3 z => ∃ k, keyK y = some k ∧ Φ n3 ((lookK kvs k).getD z)) : WE c (tDGet2 td ty tx) ρ n Φ := fun P L σ H Q E q => by
  refine h P L σ H _ E fun x d n1 H1 s1 j1 r1 ⟨kvs, e, h1⟩ => ?_
  subst e
  have E1 := E.step s1 j1
  cases r1 with
  | dct hs0 rk0 =>
    have r1 : Rp c.K (hid (L ++ c.O) H1) (.ref _) (.dct kvs) := .dct hs0 rk0
    refine ⟨_, rfl, .inl ⟨_, same_rd same_hid hs0⟩, ?_⟩
    refine h1 P L σ H1 _ E1 fun y dy n2 H2 s2 j2 r2 h2 => ?_
    have E2 := E1.step s2 j2
    refine h2 P L σ H2 _ E2 fun z dz n3 H3 s3 j3 r3 ⟨k, hk, kk⟩ => ?_
    have r4 := (r1.mono (E1.sameLO s2)).mono (E2.sameLO s3)
    cases r4 with
    | dct hs rk =>
      refine ⟨_, .inl ⟨_, k, same_rd same_hid hs, keyK_V (r2.mono (E2.sameLO s3)) hk, rfl⟩, ?_⟩
      have s := (s1.trans s2).trans s3
      cases hl : lookK kvs k with
      | none => rw [rk.look.2 hl]; rw [hl] at kk; exact q _ _ n3 H3 s j3 r3 kk
      | some d =>
        obtain ⟨v, hv, rv⟩ := rk.look.1 d hl
        rw [hv]; rw [hl] at kk; exact q _ _ n3 H3 s j3 rv kk
section
variable {pr : Program} {wd : World} {K : PySem.W.Frag} {O : List Addr} {H : Hp} {σ : List (Option V)} {ρ : List SD} {L : List Addr}
theorem Slots.setK {l : Addr} {kvs : List (L2.Key × D)} (hx : KDict pr wd K O H l kvs) (hn : l ∉ L) : ∀ {σ : List (Option V)} {ρ : List SD} {L : List Addr} (i : Nat), i < ρ.length → Slots pr wd K O H σ ρ L →
    ∃ L1 L2 L3, Slots pr wd K O H (σ.set i (some (.ref l))) (ρ.set i (.dk kvs)) (L1 ++ l :: L2) ∧ L = L1 ++ L3 ∧ L2.Sublist L3
  | _, _, _, _, h, .nil => by simp at h
  | _, _, L, 0, _, .un s => ⟨[], L, L, .dk hx s, rfl, List.Sublist.refl _⟩
  | _, _, L, 0, _, .val _ s => ⟨[], L, L, .dk hx s, rfl, List.Sublist.refl _⟩
  | _, _, _ :: L, 0, _, .own _ _ s => ⟨[], L, _, .dk hx s, rfl, List.sublist_cons_self _ _⟩
  | _, _, _ :: L, 0, _, .dic _ s => ⟨[], L, _, .dk hx s, rfl, List.sublist_cons_self _ _⟩
  | _, _, _ :: L, 0, _, .dk _ s => ⟨[], L, _, .dk hx s, rfl, List.sublist_cons_self _ _⟩
  | _, _, _ :: L, 0, _, .tw _ s => ⟨[], L, _, .dk hx s, rfl, List.sublist_cons_self _ _⟩
  | _, _, _, i + 1, h, .un s => by
    obtain ⟨L1, L2, L3, h1, h2⟩ := Slots.setK hx hn i (by simpa using h) s
    exact ⟨L1, L2, L3, .un h1, h2⟩
  | _, _, _, i + 1, h, .val q s => by
    obtain ⟨L1, L2, L3, h1, h2⟩ := Slots.setK hx hn i (by simpa using h) s
    exact ⟨L1, L2, L3, .val q h1, h2⟩
  | _, _, _, i + 1, h, .own q r s => by
    obtain ⟨L1, L2, L3, h1, h2, h3⟩ := Slots.setK hx hn i (by simpa using h) s
    exact ⟨_ :: L1, L2, L3, .own q r h1, by rw [h2]; rfl, h3⟩
  | _, _, _, i + 1, h, .dic q s => by
    obtain ⟨L1, L2, L3, h1, h2, h3⟩ := Slots.setK hx hn i (by simpa using h) s
    exact ⟨_ :: L1, L2, L3, .dic q h1, by rw [h2]; rfl, h3⟩
  | _, _, _, i + 1, h, .dk q s => by
    obtain ⟨L1, L2, L3, h1, h2, h3⟩ := Slots.setK hx hn i (by simpa using h) s
    exact ⟨_ :: L1, L2, L3, .dk q h1, by rw [h2]; rfl, h3⟩
  | _, _, _, i + 1, h, .tw q s => by
    obtain ⟨L1, L2, L3, h1, h2, h3⟩ := Slots.setK hx hn i (by simpa using h) s
    exact ⟨_ :: L1, L2, L3, .tw q h1, by rw [h2]; rfl, h3⟩
  | _, _, _, 0, _, .ot _ q s => ⟨[], _, _, .dk hx s, rfl, by rw [q]; exact List.sublist_append_right _ _⟩
  | _, _, _, i + 1, h, .ot p q s => by
    obtain ⟨L1, L2, L3, h1, h2, h3⟩ := Slots.setK hx hn i (by simpa using h) s
    exact ⟨_, L2, L3, .ot p (List.append_assoc _ _ _) h1, by rw [q, h2, List.append_assoc], h3⟩
end
/-! one's own -/
theorem ws_freezeK (i : Nat) {kvs : List (L2.Key × D)} (h : ρ[i]? = some (.dk kvs)) (k : WS c ts (ρ.set i (.val (.dct kvs))) n Ψ) : WS c ts ρ n Ψ := fun P L σ H Dn E A => by
  obtain ⟨L', E', _⟩ := E.freezeK h
  exact k P L' σ H Dn E' A
theorem wt_lookK (i : Nat) {Φ : Nat → Bool → Prop} {kvs : List (L2.Key × D)} (h : ρ[i]? = some (.dk kvs)) (k : WT c t (ρ.set i (.val (.dct kvs))) n Φ) : WT c t ρ n Φ := fun P L σ H Q E q => by
  obtain ⟨L', E', sub⟩ := E.freezeK h
  exact k P L' σ H Q E' fun b n1 H1 s1 j1 k1 => q b n1 H1 s1 j1 k1
theorem we_lookK (i : Nat) {kvs : List (L2.Key × D)} (h : ρ[i]? = some (.dk kvs)) (k : WE c te (ρ.set i (.val (.dct kvs))) n fun n1 d => scalar d = true ∧ Φ n1 d) : WE c te ρ n Φ := fun P L σ H Q E q => by
  obtain ⟨L', E', sub⟩ := E.freezeK h
  exact k P L' σ H Q E' fun v d n1 H1 s1 j1 r1 ⟨hs, k1⟩ => q v d n1 H1 s1 j1 (r1.scal hs) k1
/-- d[k], d one's own -/
theorem we_kget {i : Nat} {kvs : List (L2.Key × D)} (h0 : ρ[i]? = some (.dk kvs)) (h : WE c ty ρ n fun n2 y => ∃ k, keyK y = some k ∧ ∃ d, lookK kvs k = some d ∧ Φ n2 d) : WE c (tDGet (tVar i) ty) ρ n Φ := fun P L σ H Q E q => by
  obtain ⟨l, g1, _, _, _⟩ := E.dk_at h0
  refine ⟨.ref l, g1, ?_⟩
  refine h P L σ H _ E fun y dy n2 H2 s2 j2 r2 ⟨k, hk, d, hl, kk⟩ => ?_
  have E2 := E.step s2 j2
  obtain ⟨l', g1', _, ⟨xs, g2, g3⟩, _⟩ := E2.dk_at h0
  rw [g1] at g1'
  cases g1'
  obtain ⟨v, hv, rv⟩ := g3.look.1 d hl
  exact ⟨_, v, rfl, .inl ⟨_, k, .inl g2, keyK_V r2 hk, hv.symm⟩, q v d n2 H2 s2 j2 rv kk⟩
/-- d[k] = v, d one's own -/
theorem ws_kput {i : Nat} {kvs : List (L2.Key × D)} {tv : TE} (h0 : ρ[i]? = some (.dk kvs)) (hz : kvs.length < 16777216) (h : WE c tv ρ n fun n1 vd => WE c ty ρ n1 fun n2 y => ∃ k, keyK y = some k ∧ Ψ.nx n2 (ρ.set i (.dk (putKD kvs k vd)))) : WS c (sDPut (tVar i) ty tv) ρ n Ψ := fun P L σ H Dn E A => by
  refine h P L σ H _ E fun v vd n1 H1 s1 j1 r1 h1 => ?_
  have E1 := E.step s1 j1
  obtain ⟨l, g1, _, _, _⟩ := E1.dk_at h0
  refine ⟨.ref l, g1, ?_⟩
  refine h1 P L σ H1 _ E1 fun y dy n2 H2 s2 j2 r2 ⟨k, hk, kk⟩ => ?_
  have E2 := E1.step s2 j2
  obtain ⟨l', g1', gL, ⟨xs, g2, g3⟩, up⟩ := E2.dk_at h0
  rw [g1] at g1'
  cases g1'
  refine ⟨l, upd H2 l (.dK (putK xs k v)), rfl, .inl ⟨xs, k, g2, keyK_V r2 hk, by rw [g3.length, sizeLine_eq]; exact hz, rfl⟩, ?_⟩
  refine A.nx L n2 _ _ _ (up (.dK (putK xs k v)) (putKD kvs k vd) ⟨_, upd_same, ?_⟩) kk
  rw [hid_upd_in gL]
  exact g3.put (r1.mono (E1.sameLO s2))
theorem ws_knew {i : Nat} (hi : i < ρ.length) (k : Ψ.nx n (ρ.set i (.dk []))) : WS c (tAsg (tDNewK) (gName i)) ρ n Ψ := fun P L σ H Dn E A => by
  intro p hp
  have w := E.new hp
  have nin : p ∉ L ++ c.O := E.noO p hp
  have T := E.newT (o := .dK []) hp
  have E1 := E.step T.1 T.2.1
  have e0 : ∀ O, hid (p :: O) (upd H p (.dK [])) = hid O H := fun O => hid_new_in hp
  obtain ⟨Ls, sl0, sb⟩ := E.slots
  have sl : Slots c.pr c.wd c.K (p :: (L ++ c.O)) (upd H p (.dK [])) σ ρ Ls := sl0.move (fun l hl => upd_ne fun e => w.2.2 (e ▸ sb.subset hl)) (by rw [e0]; exact Same.refl _)
  have nd : KDict c.pr c.wd c.K (p :: (L ++ c.O)) (upd H p (.dK [])) p [] := ⟨[], upd_same, .nil⟩
  obtain ⟨L1, L2, L3, sl2, eL, sub⟩ := Slots.setK nd (fun q => w.2.2 (sb.subset q)) i hi sl
  have mv : ∃ Lp : List Addr, (L1 ++ p :: L2).Sublist Lp ∧ Lp.Perm (p :: L) := by
    rw [eL] at sb
    have h5 : (L1 ++ L2).Sublist L := (List.Sublist.append_left sub L1).trans sb
    exact ins_sub h5
  obtain ⟨Lp, sLp, pLp⟩ := mv
  have mem : ∀ a, a ∈ Lp ++ c.O ↔ a ∈ p :: (L ++ c.O) := fun a => by
    rw [show p :: (L ++ c.O) = (p :: L) ++ c.O from rfl, List.mem_append, List.mem_append, pLp.mem_iff]
  refine A.nx Lp n _ _ _ ?_ k
  exact { nd := pLp.nodup_iff.mpr (List.nodup_cons.mpr ⟨w.2.2, E.nd⟩),
          fresh := fun l hl => by
            rcases List.mem_cons.mp (pLp.mem_iff.mp hl) with q | q
            · subst q; exact ⟨w.1, w.2.1⟩
            · exact E.fresh l q,
          slots := ⟨_, sl2.move (fun _ _ => rfl) (same_hid_sub fun a ha => (mem a).mp ha), sLp⟩,
          lst := fun l hl => by
            rcases List.mem_cons.mp (pLp.mem_iff.mp hl) with q | q
            · subst q; exact ⟨_, upd_same⟩
            · exact E1.lst l q,
          bag := T.2.1,
          base := E1.base,
          pers := (E.pers.trans (by rw [e0]; exact Same.refl _)).trans (same_hid_sub fun a ha => (mem a).mp ha),
          bO := E.bO, al := E1.al }
/-- dict(d) -/
def rDictD (K : PySem.W.Frag) : List V → Hp → VK → Prop := fun vs H Q => ∃ (a : Addr) (xs : List (L2.Key × V)), vs = [.ref a] ∧ Rd H a (.dK xs) ∧ ∀ p, H p = none → Q (.ref p) (upd H p (.dK xs))
theorem rc_dict {K : PySem.W.Frag} {Φ : D → Prop} {kvs : List (L2.Key × D)} (k : Φ (.dct kvs)) : RCD K (rDictD K) [.dct kvs] Φ := fun O H xs Q rs no q => by
  obtain ⟨v, rfl, r⟩ := rs.one
  cases r with
  | dct hs rk => exact ⟨_, _, rfl, same_rd same_hid hs, fun p hp => q _ _ _ (same_upd_new hp) (.dct (.inl (hid_at (no p hp))) (rk.mono (rp_upd (K := K) hp))) k⟩
theorem x_dict {X : Cx} (K : PySem.W.Frag) : CallR X (.type "dict") (rDictD K) := by
  intro pins s σ H vs us Q I r h
  obtain ⟨a, xs, rfl, hr, q⟩ := h
  rw [Vals.ref1 r]
  exact d_copyOf I hr fun p s' hp I' => ⟨.ref p, _, I', rfl, q p hp⟩
end
end L3
/-! L3p: texts walked and searched, attributes within comprehensions, classes as callers see them. -/
namespace L3
open PySem L2
section
variable {X : Cx} (K : PySem.W.Frag)
theorem x_fld {e : Expr} {f : Str} {pos : Pos} {ta : TE} (h : PE X (.Attribute e f pos) (tFld X.K ta f)) (hK : X.K = K := by rfl) : PE X (.Attribute e f pos) (tFld K ta f) := hK ▸ h
theorem x_sfld {o value : Expr} {f : Str} {pos pos' : Pos} {ta tv : TE} (h : PS X (.Assign [.Attribute o f pos'] value pos) (sFld X.K ta tv f)) (hK : X.K = K := by rfl) : PS X (.Assign [.Attribute o f pos'] value pos) (sFld K ta tv f) := hK ▸ h
end
/-- a class as its callers see it -/
structure Mn (P : Program) (w : World) (K : PySem.W.Frag) (mg : Str → Option Value) (base : Heap) (x : Str) (k : Nat) (ps : List Str) (dv : List V) (dw : List Value) (S : SpecI) where
  C : Addr
  fI : Addr
  fd : FuncData
  M : Mk K C fI
  cl : Cls K C
  G : FnOk P w K mg base CX0 k fI fd ps (spI K C S)
  m : mg x = some (.ref C)
  b : Binds K fd ps dw
  v : Vals dv dw
section
variable {c : Ctx} {ρ : List SD} {n : Nat} {te : TE}
def signsD (z : Str) : List D := z.cps.toList.map fun u => D.str ⟨#[u]⟩
theorem it_s {z : Str} {P : Hp} : ItOk c (Its z) (signsD z) P where
  go := fun L n H σ ρ E i d hd => by
    unfold signsD at hd
    rw [List.getElem?_map] at hd
    have hi : i < z.cps.size := by
      refine Nat.lt_of_not_le fun q => ?_
      rw [List.getElem?_eq_none (by simpa using q)] at hd
      cases hd
    refine ⟨hi, fun x H' ⟨e, u, hu, hy⟩ => ?_⟩
    subst e; subst hy
    have hu' : z.cps.toList[i]? = some u := by rw [Array.getElem?_toList]; exact hu
    rw [hu'] at hd
    cases hd
    exact ⟨Same.refl _, .str _⟩
  stop := fun L n H σ ρ E i hi => by
    unfold signsD at hi
    show z.cps.size ≤ i
    simpa using hi
theorem wi_str {Φ : Nat → List D → Prop} (h : WE c te ρ n fun n1 d => ∃ z, d = .str z ∧ Φ n1 (signsD z)) : WI c (iStr te) ρ n Φ := fun P L σ H R E q => by
  refine h P L σ H _ E fun x d n1 H1 s1 j1 r1 ⟨z, e, k⟩ => ?_
  subst e
  cases r1
  exact ⟨z, rfl, q _ _ n1 H1 s1 j1 it_s k⟩
end
section
variable {K : PySem.W.Frag} {Φ : D → Prop}
theorem r2_sign {u : Nat} {z : Str} (k : Φ (.bl (decide (u ∈ z.cps.toList)))) : R2D K L2.rInS (.str ⟨#[u]⟩) (.str z) Φ := fun O H x y Q rx ry _ q => by
  cases rx; cases ry
  exact ⟨u, z, rfl, rfl, q _ _ H (Same.refl _) (.bl _) k⟩
theorem r2_notSign {u : Nat} {z : Str} (k : Φ (.bl (!decide (u ∈ z.cps.toList)))) : R2D K L2.rNotInS (.str ⟨#[u]⟩) (.str z) Φ := fun O H x y Q rx ry _ q => by
  cases rx; cases ry
  exact ⟨u, z, rfl, rfl, q _ _ H (Same.refl _) (.bl _) k⟩
end
end L3
/-! L3q: constants of the module, __init__ with defaults. -/
namespace L3
open PySem L2
section
variable {c : Ctx} {ρ : List SD} {n : Nat} {Φ : Nat → D → Prop}
theorem we_const {v : V} {d : D} (h : ∀ H, Rp c.K H v d) (k : Φ n d) : WE c (tC v) ρ n Φ := fun P L σ H Q E q => q v d n H (Same.refl _) E.bag (h _) k
end
section
variable {P : Program} {w : World} {K : PySem.W.Frag} {mg : Str → Option Value} {base : Heap} {C : Addr}
theorem fn_ID {x qual : Str} {st : Stmt} {fa : Addr} {fd : FuncData} {N ps : List Str} {k : Nat} {S : SpecI} {dvs : List V} (F : FunD K x qual (defArgs st) (defBody st) (defScope st) dvs [] fa fd) (sc : FnScope N ps (defScope st))
    (len : ∀ bag n ds Φ, S bag n ds Φ → ds.length + 1 = ps.length)
    (body : ∀ (cdv : Value) (A : Around) (outer : List PySem.Env) (s : Shared) (H : Hp) (E : XK) (O : List Addr) (bag : Option (Addr × Addr)) (n : Nat) (ds : List D) (Φ : Nat → List (Str × D) → Prop) (p dx : Addr), Room k (A.deeper (PyProof.Rows.envOfC qual (defScope st) s.heap.objs.size fa cdv)) → S bag n ds Φ →
      ∃ t, PSs (cxOf CX0 P w K mg base N qual (defScope st) fa cdv A outer s H E).nox (defBody st) t ∧ WN P w K O bag p C dx t (rho N (.adr p :: ds)) n [] Φ) :
    FnOk P w K mg base CX0 (k + 1) fa fd ps (spI K C S) := by
  refine F.ok sc (fun vs H Q E h => ?_) (fun cdv A outer s H vs Q E hr h => ?_)
  · obtain ⟨O, bag, n, ds, Φ, p, dx, ws, rfl, _, _, _, _, r, hS, _⟩ := h
    rw [List.length_cons, r.length]; exact len bag n ds Φ hS
  · obtain ⟨O, bag, n, ds, Φ, p, dx, ws, rfl, hp, pO, hb, hO, r, hS, q⟩ := h
    obtain ⟨t, ht, W⟩ := body cdv A outer s H E O bag n ds Φ p dx hr hS
    refine ⟨t, ht.nox, W H _ [] _ hp pO .nil ?_ fun σ' fs' ks' n' H' s' b' hp' hf' kk' => q fs' ks' n' H' s' b' hp' hf' kk'⟩
    have r' : RpAll K (hid (p :: O) H) (.ref p :: ws) (.adr p :: ds) := .cons (.adr p) r
    have e : L2.start N (.ref p :: ws) = (.ref p :: ws).map some ++ List.replicate (N.length - (D.adr p :: ds).length) none := by unfold L2.start; rw [r'.length]
    exact { nd := List.nodup_nil, fresh := (fun l hl => nomatch hl), slots := ⟨[], by rw [e]; exact slots_start r', List.Sublist.refl _⟩, lst := (fun l hl => nomatch hl), bag := fun b q e => (hb b q e).1, base := Same.refl _,
            pers := (fun _ _ e => nomatch e), bO := fun b q e => ⟨List.mem_cons_of_mem _ (hb b q e).2.1, List.mem_cons_of_mem _ (hb b q e).2.2.1, (hb b q e).2.2.2⟩,
            al := fun o ho => by
              rcases List.mem_cons.mp ho with z | z
              · rw [z, hp]; exact fun z => nomatch z
              · exact hO o z }
end
end L3
/-! L3r: enumerate over a tuple. -/
namespace PySem
open PySem.W PyProof.Rows
theorem l3_enum_new1 {v : Value} {o : Obj} {H : Heap → Prop} (B : Begins v o H) :
    Meets (Builtin.«enumerate.__new__» ⟨[.type "enumerate", v], []⟩) (fun _ R s => H s.heap ∧
      R (.ok (.ret (.ref (s.heap.push o).objs.size))) { s with heap := (s.heap.push o).push { cls := .type "enumerate", data := .fields #[.none, .bool false, .ref s.heap.objs.size, rawInt 0, .none, .none] } }) :=
  .of_wp fun prog w A R s h => by
    obtain ⟨hp, g, d, tk, os⟩ := s; obtain ⟨h1, h⟩ := h
    have hsub := sub_enumerate
    have q1 : ∀ {A' : Around} {E : Value → Shared → Prop} {Q : Value → Shared → Prop}, Q (.ref hp.objs.size) ⟨hp.push o, g, d, tk, os⟩ → wpAny (model prog w) A' (pyIter v) Q E ⟨hp, g, d, tk, os⟩ :=
      fun q => B.iter prog w _ _ ⟨hp, g, d, tk, os⟩ _ h1 q
    wp_walk using q1
    refine wpAny_stack_any fun st => wpAny_pure ?_
    split
    · rename_i c _ _ _ _ _
      cases (c == Value.type "enumerate")
      · wp_walk using q1
        exact ⟨_, rfl, h⟩
      · wp_walk using q1
        exact ⟨_, rfl, h⟩
    · wp_walk using q1
      exact ⟨_, rfl, h⟩
theorem l3_enum_call1 {prog : Program} {w : World} {A : Around} {E : Value → Shared → Prop} {s : Shared} {v : Value} {o : Obj} {H : Heap → Prop} {Q : Value → Shared → Prop} (B : Begins v o H) (h1 : H s.heap)
    (h : ∀ h', IsEnum h' (s.heap.objs.size + 1) s.heap.objs.size 0 .none → h'.get? s.heap.objs.size = some o → h'.objs.size = s.heap.objs.size + 2 →
      (∀ b o, s.heap.get? b = some o → h'.get? b = some o) → Q (.ref (s.heap.objs.size + 1)) { s with heap := h' }) :
    wpAny (model prog w) A (call (.type "enumerate") [v]) Q E s := by
  refine callType_new F.called_enumerate (by decide) (F.typeCall_enumerate_1 _) (F.newCall_enumerate_1 _) (fun obj => F.args_object_init_2 obj _) F.entry_enumerate_new
    (l3_enum_new1 B) ⟨h1, ?_⟩
  have hz : (s.heap.push o).objs.size = s.heap.objs.size + 1 := Heap.size_push ..
  show _ ∧ _
  rw [hz]
  have he : IsEnum ((s.heap.push o).push { cls := .type "enumerate", data := .fields #[.none, .bool false, .ref s.heap.objs.size, rawInt 0, .none, .none] }) (s.heap.objs.size + 1) s.heap.objs.size 0 .none := by
    have := Heap.get?_push_size (s.heap.push o) (o := { cls := .type "enumerate", data := .fields #[.none, .bool false, .ref s.heap.objs.size, rawInt 0, .none, .none] }) rfl
    rw [hz] at this; exact this
  refine ⟨⟨_, he, rfl⟩, h _ he (Heap.get?_push_of_some _ (Heap.get?_push_size _ B.free)) (by rw [Heap.size_push, hz]) fun b o x => Heap.get?_push_of_some _ (Heap.get?_push_of_some _ x)⟩
end PySem
/-! L3s: enumerate over a tuple. -/
namespace L2
open PySem PySem.Spec PyProof.Rows
def IteT (K : PySem.W.Frag) (a : Addr) (n0 : Nat) : It :=
  ⟨fun i H => ∃ (xs : List V) (x : V), SqT K H a xs ∧ xs.length = n0 ∧ xs[i]? = some x, fun i H v H' => ∃ T x, v = .ref T ∧ H T = none ∧ H' = upd H T (.tup [.int (i : Nat), x]) ∧ ∀ xs, SqT K H a xs → xs[i]? = some x, fun i H => ∃ xs : List V, SqT K H a xs ∧ xs.length = n0 ∧ n0 ≤ i⟩
theorem turn_enumT {P : Program} {w : World} {K : PySem.W.Frag} {elts : List Expr} {kk : Nat} {tpos : Pos} (a e it : Addr) (n0 : Nat) (hea : a ≠ it) :
    Turn P w K (.Tuple elts kk tpos) (IteT K a n0) [e, it] e (fun i h => (∃ old, IsEnum h e it ((i : Nat) : Int) old) ∧ h.IsTupleIter it a i ∧ e ≠ it ∧ a ≠ e ∧ i ≤ n0) where
  mem := by simp
  obj := fun i h st b hb => by
    obtain ⟨⟨old, he⟩, ⟨o, ho, hc, hd⟩, _⟩ := st
    have e' : b = e ∨ b = it := by simpa using hb
    rcases e' with z | z
    · rw [z]; exact ⟨_, he, fun v q => nomatch q⟩
    · rw [z]; exact ⟨o, ho, fun v q => by rw [hd] at q; cases q⟩
  keep := fun i h h' st k => let ⟨⟨old, he⟩, hi, hne⟩ := st; ⟨⟨old, k e (by simp) _ he⟩, hi.at fun o q => k it (by simp) o q, hne⟩
  item := by
    intro X hP hw hK hc i pins s σ H E I hf st hg
    subst hP hw hK
    obtain ⟨⟨old, he⟩, hit, hne, hae, hin⟩ := st
    obtain ⟨xs, x, hq, hxl, hx⟩ := hg
    obtain ⟨its, rv, p, hz⟩ := I.tuple hq
    obtain ⟨u, hu, ru⟩ := rv.get hx
    have hel : e < s.heap.objs.size := Heap.lt_size he
    have hil : it < s.heap.objs.size := by obtain ⟨_, q, _⟩ := hit; exact Heap.lt_size q
    have hlt : i < its.toArray.size := by
      have := (List.getElem?_eq_some_iff.mp hu).1
      simpa using this
    refine wpAny_pyNext_enum_itemC (Draws.tuple (show X.A.in1.handled = none from I.ok.hd hc) it a hea its.toArray) he ⟨hit, show s.heap.IsTuple a its.toArray from p⟩ hlt hne (by simp [hne, Ne.symm hae]) fun u' h' tk hP ho hit' hT hsz hk => ?_
    have eu : u' = u := by
      have h1 : its[i]? = some u' := by simpa using hP
      rw [hu] at h1
      exact (Option.some.inj h1).symm
    subst eu
    refine ⟨_, rfl, wpAny_letOwnedTupleGo_enum (s := { s with heap := h', toks := tk + 1 }) ho fun h'' he' sb => ?_⟩
    have hT2 : h''.get? s.heap.objs.size = some { cls := .type "tuple", data := .seq #[.int i tk, u'] } := (sb.2 _ (Nat.ne_of_gt hel)).trans hT
    have new : ObjOk X.prog X.w (upd H s.heap.objs.size (.tup [.int (i : Nat), x])) h'' s.heap.objs.size (.tup [.int (i : Nat), x]) :=
      ⟨by show 2 ≤ sizeLine; decide, [.int i tk, u'], .cons ⟨_, rfl⟩ (.cons ru .nil), ⟨_, hT2, rfl, _, rfl⟩⟩
    have I1 : Inv X pins σ (upd H s.heap.objs.size (.tup [.int (i : Nat), x])) { s with heap := h'', toks := tk + 1 } :=
      I.turnedNew (ch := [e, it]) (fun b ob hb q => (sb.2 b (fun z => hb (by simp [z]))).trans (hk b ob (fun z => hb (by simp [z])) (fun z => hb (by simp [z])) q)) hf (Nat.le_refl _) new
    refine ⟨.ref s.heap.objs.size, _, I1, rfl, ⟨_, x, rfl, I.hok.fresh (Nat.le_refl _), rfl, fun ys hy => by rw [I.tuple_inj hy hq]; exact hx⟩, ⟨⟨u', ?_⟩, hit'.1.at fun o q => (sb.2 it (Ne.symm hne)).trans q, hne, hae, by have := (List.getElem?_eq_some_iff.mp hx).1; omega⟩, fun b hb => ?_⟩
    · have e1 : ((i + 1 : Nat) : Int) = (i : Int) + 1 := by omega
      rw [e1]; exact he'
    · have hb' : b < s.heap.objs.size := by
        have e' : b = e ∨ b = it := by simpa using hb
        rcases e' with z | z
        · rw [z]; exact hel
        · rw [z]; exact hil
      rw [upd_ne (Nat.ne_of_lt hb')]
      exact (hf b hb).1
  done := by
    intro X hP hw hK hc i pins s σ H E I hf st hg
    subst hP hw hK
    obtain ⟨⟨old, he⟩, hit, hne, hae, hin⟩ := st
    obtain ⟨xs, hq, hxl, hx⟩ := hg
    obtain ⟨its, rv, p, hz⟩ := I.tuple hq
    obtain ⟨f0, f1, f2, f3, f4, f5⟩ := hf it (by simp)
    have hl := rv.length
    have ei : i = its.toArray.size := by simp; omega
    subst ei
    exact wpAny_pyNext_enum_endD (Draws.tuple (show X.A.in1.handled = none from I.ok.hd hc) it a hea its.toArray) he ⟨hit, show s.heap.IsTuple a its.toArray from p⟩ fun h' eb => ⟨rfl, I.turned (t' := s.toks) (fun b o hb q => eb b o hb q) f0 f1 f3 f4 f5⟩
  self := fun A i s Q E st h => let ⟨⟨_, he⟩, _⟩ := st; wpAny_pyIter_enum he h
def iEnumT (K : PySem.W.Frag) (ta : TA) : TI := fun σ H R => ta σ H fun vs H1 => ∃ a xs, vs = [.ref a] ∧ SqT K H1 a xs ∧ R (IteT K a xs.length) H1
theorem pi_enumT {X : Cx} {e : Expr} {ta : TA} {p pos tpos : Pos} {elts : List Expr} {kk : Nat} (hg : Gl X "enumerate") (hm : X.mg "enumerate" = none) (ha : PA X [e] ta) (hs : starEach [e] X.env = [(false, eval e X.env)] := by rfl) :
    PI X (.Tuple elts kk tpos) (.Call (.Name "enumerate" p) [e] [] pos) (iEnumT X.K ta) := by
  refine ⟨fun pins s σ H R I h => ?_⟩
  refine Call_ (ld_blt I hg hm boot_enumerate (PyProof.Rows.callWith_type1 (thn (ha.run pos pins s σ H _ I h) fun us s1 ⟨vs, H1, I1, r1, q1⟩ => ?_) hs rfl))
  obtain ⟨a, xs, ex, hq, q⟩ := q1
  subst ex
  cases r1 with
  | cons r rr =>
    cases rr
    cases r
    obtain ⟨its, rv, p', hz⟩ := I1.tuple hq
    have ipt : s1.heap.IsTuple a its.toArray := p'
    have hal : a < s1.heap.objs.size := by
      obtain ⟨o, ho, _⟩ := ipt
      exact Heap.lt_size ho
    refine l3_enum_call1 (begins_tuple a its.toArray) ipt fun h' he hit hsz hk => wpAny_pyIter_enum he ?_
    have I2 : Inv X pins σ H1 { s1 with heap := h' } := I1.kept (t' := s1.toks) hk
    refine ⟨s1.heap.objs.size + 1, [s1.heap.objs.size + 1, s1.heap.objs.size], _, _, H1, rfl, I2, turn_enumT a (s1.heap.objs.size + 1) s1.heap.objs.size xs.length (Nat.ne_of_lt hal), ⟨⟨.none, he⟩, ⟨_, hit, rfl, rfl⟩, Nat.succ_ne_self _, Nat.ne_of_lt (Nat.lt_succ_of_lt hal), Nat.zero_le _⟩, fun b hb => ?_, q⟩
    have e' : b = s1.heap.objs.size + 1 ∨ b = s1.heap.objs.size := by simpa using hb
    have hle : s1.heap.objs.size ≤ b := by
      rcases e' with z | z
      · rw [z]; exact Nat.le_add_right _ _
      · rw [z]; exact Nat.le_refl _
    exact I1.fpOk hle (I1.hok.fresh hle)
end L2
namespace L3
open PySem L2
theorem x_enumT {X : Cx} (K : PySem.W.Frag) {e : Expr} {ta : TA} {p pos tpos : Pos} {elts : List Expr} {kk : Nat} (hg : Gl X "enumerate") (hm : X.mg "enumerate" = none) (ha : PA X [e] ta) (hs : starEach [e] X.env = [(false, eval e X.env)] := by rfl) (hK : X.K = K := by rfl) :
    PI X (.Tuple elts kk tpos) (.Call (.Name "enumerate" p) [e] [] pos) (iEnumT K ta) := hK ▸ pi_enumT hg hm ha hs
section
variable {c : Ctx} {ρ : List SD} {n : Nat} {as : TA}
theorem it_eT {a : Addr} {xs : List V} {ds : List D} {P : Hp} (hs : SqT c.K P a xs) (hr : RpAll c.K P xs ds) : ItOk c (IteT c.K a xs.length) (enumD 0 ds) P where
  go := fun L n H σ ρ E i d hd => by
    obtain ⟨e, h1, h2⟩ := enumD_get hd
    obtain ⟨v, g1, g2⟩ := hr.get' h1
    subst h2
    refine ⟨⟨xs, v, same_t E.perR hs, rfl, g1⟩, fun x H' ⟨T, y, e1, e2, e3, hy⟩ => ?_⟩
    subst e1; subst e3
    have e4 := hy xs (same_t E.perR hs)
    rw [g1] at e4
    cases e4
    have sm := same_upd_new (o := .tup [.int (i : Nat), v]) e2
    refine ⟨sm, .tup (.inl (.inl (hid_at (E.noO T e2)))) (.cons ?_ (.cons ((g2.mono E.pers).mono (same_hid_of sm)) .nil))⟩
    have e5 : (0 : Int) + (i : Int) = (i : Int) := by omega
    rw [e5]
    exact .int _
  stop := fun L n H σ ρ E i hi => by
    rw [enumD_len] at hi
    exact ⟨xs, same_t E.perR hs, rfl, by rw [hr.length]; exact hi⟩
theorem wi_enumT {Φ : Nat → List D → Prop} (h : WA c as ρ n fun n1 ds => ∃ xs, ds = [.tup xs] ∧ Φ n1 (enumD 0 xs)) : WI c (iEnumT c.K as) ρ n Φ := fun P L σ H R E q => by
  refine h P L σ H _ E fun vs ds n1 H1 s1 j1 r1 ⟨xs, e, k⟩ => ?_
  subst e
  cases r1 with
  | cons r rr =>
    cases rr
    cases r with
    | tup hs ha => exact ⟨_, _, rfl, same_t same_hid hs, q _ _ n1 H1 s1 j1 (it_eT hs ha) k⟩
end
end L3
/-! L3t: a tuple whose head is a dict of one's own; more of own lists and dicts. -/
namespace L3
open PySem L2
theorem nd_rp {pr : Program} {wd : World} {K : PySem.W.Frag} {O O' : List Addr} {H : Hp} {l : Addr} {kvs : List (D × D)} (h : NDict pr wd K O H l kvs) (b : l ∉ O') (a : Same (hid O H) (hid O' H)) : Rp K (hid O' H) (.ref l) (.dcn pr wd kvs) := by
  obtain ⟨xs, h1, h2, h3⟩ := h
  exact .dcn (.inl (by rw [hid_out b]; exact h1)) h2 ((RpNs.of h3).mono a)
/-- the same, locked or not -/
def NDictR (pr : Program) (wd : World) (K : PySem.W.Frag) (O : List Addr) (H : Hp) (l : Addr) (kvs : List (D × D)) : Prop :=
  ∃ xs, Rd H l (.ext (DictBare pr wd xs l)) ∧ (l == sysModules) = false ∧ Paired (EntD K (hid O H)) kvs xs
theorem nd_ofR {X : Cx} {pins : List (Addr × Obj)} {σ : L2.St} {H : Hp} {s : Shared} (I : Inv X pins σ H s) {O : List Addr} {l : Addr} {kvs : List (D × D)} {xs : List (NestedKey × Addr × Value)} (h1 : Rd H l (.ext (DictBare X.prog X.w xs l))) (h3 : Paired (EntD X.K (hid O H)) kvs xs) : s.heap.DictOfH (nestedKind X.prog X.w) l xs := by
  obtain ⟨⟨o, es, ep, e1, e2, e3, e4, e5⟩, _⟩ := h1.ok I.hok
  refine ⟨o, es, ep, e1, e2, e3, e4, fun x hx => ?_, e5⟩
  have key : ∀ {kvs : List (D × D)} {xs : List (NestedKey × Addr × Value)}, Paired (EntD X.K (hid O H)) kvs xs → x ∈ xs → (nestedKind X.prog X.w).is s.heap x.1 x.2.1 := by
    intro kvs xs h
    induction h with
    | nil => intro q; cases q
    | cons h t ih =>
      intro q
      rcases List.mem_cons.mp q with q | q
      · subst q
        obtain ⟨g1, g2, g3, _⟩ := h
        obtain ⟨a, ea, eb, is⟩ := key_is I g3 rfl g1
        cases eb
        rw [g2]; exact is
      · exact ih q
  exact key h3 hx
theorem nd_of_rp {pr : Program} {wd : World} {K : PySem.W.Frag} {O : List Addr} {H : Hp} {x : V} {kvs : List (D × D)} (h : Rp K (hid O H) x (.dcn pr wd kvs)) : ∃ l, x = .ref l ∧ NDictR pr wd K O H l kvs := by
  cases h with
  | dcn h1 h2 h3 => exact ⟨_, rfl, _, same_rd same_hid h1, h2, h3.pair⟩
def rIxR (pr : Program) (wd : World) (K : PySem.W.Frag) : R2 := fun x y H Q => ∃ (O : List Addr) (l : Addr) (kvs : List (D × D)) (kd v : D), x = .ref l ∧ NDictR pr wd K O H l kvs ∧ Rp K (hid O H) y kd ∧ keyD kd = true ∧ lookD kvs kd = some v ∧ ∀ u, Rp K (hid O H) u v → Q u H
theorem x_ixR {X : Cx} (pr : Program) (wd : World) (K : PySem.W.Frag) (hu : X.A.units + 64 < cLine) (hp : X.prog = pr := by rfl) (hw : X.w = wd := by rfl) (hK : X.K = K := by rfl) : IxR X (rIxR pr wd K) := by
  subst hp; subst hw; subst hK
  intro value slice pins s σ H x y v u Q I rx ry h hs
  obtain ⟨O, l, kvs, kd, vd, rfl, ⟨xs, n1, n2, n3⟩, rk, hk, hl, q⟩ := h
  cases rx
  obtain ⟨a, ea, eb, is⟩ := key_is I rk ry hk
  subst eb
  have dd := nd_ofR I n1 n3
  rcases ent_look (kd := kd) n3 with ⟨e1, _⟩ | ⟨v', a', u', w, e1, e2, e3, e4⟩
  · rw [e1] at hl; cases hl
  · rw [e1] at hl
    cases hl
    refine PyProof.Rows.tail_any dd.typeIs PySem.F.slot_dict_getitem.lookup ?_ hs
    exact wpAny_getItem_heap (by show X.A.in1.units + 8 < cLine; have : X.A.in1.units = X.A.units + 1 := rfl; omega) is dd e2 ⟨w, H, I.tok _, e3, q w e4⟩
section
variable {c : Ctx} {ρ : List SD} {n : Nat} {ta tb te td ty tx : TE} {t u : TT} {as : TA} {Φ : Nat → D → Prop} {Ψ : Out} {ts us : TS}
/-! ### results that hang on no dict -/
theorem rd_drop {O : List Addr} {H : Hp} {l a : Addr} {x : HO} (hn : ¬ Rd H l x) (h : Rd (hid O H) a x) : Rd (hid (l :: O) H) a x := by
  have ne : a ≠ l := fun e => hn (by rw [← e]; exact same_rd same_hid h)
  have e : hid (l :: O) H a = hid O H a := by
    unfold hid
    by_cases q : a ∈ O
    · rw [if_pos q, if_pos (List.mem_cons_of_mem _ q)]
    · rw [if_neg q, if_neg (by simp [ne, q])]
  unfold Rd
  rw [e]; exact h
def NoSeq (H : Hp) (l : Addr) : Prop := ∀ xs, ¬ Rd H l (.lst xs) ∧ ¬ Rd H l (.tup xs)
theorem noSeq_ext {H : Hp} {l : Addr} {φ : Heap → Prop} (h : H l = some (.ext φ)) : NoSeq H l := fun xs => by
  constructor <;> rintro (q | ⟨o, q⟩) <;> (rw [h] at q; cases q)
theorem noSeq_dK {H : Hp} {l : Addr} {kvs : List (L2.Key × V)} (h : H l = some (.dK kvs)) : NoSeq H l := fun xs => by
  constructor <;> rintro (q | ⟨o, q⟩) <;> (rw [h] at q; cases q)
mutual
theorem rp_drop {K : PySem.W.Frag} {O : List Addr} {H : Hp} {l : Addr} (hl : NoSeq H l) : ∀ (d : D) (v : V), Rp K (hid O H) v d → plain d = true → Rp K (hid (l :: O) H) v d
  | .non, _, h, _ => by cases h; exact .non
  | .bl b, _, h, _ => by cases h; exact .bl b
  | .int i, _, h, _ => by cases h; exact .int i
  | .str x, _, h, _ => by cases h; exact .str x
  | .lst xs, _, h, p => by
    cases h with
    | lst h r => exact .lst (rd_drop (hl _).1 h) (rp_drops hl xs _ r p)
  | .tup xs, _, h, p => by
    cases h with
    | tup h r =>
      refine .tup ?_ (rp_drops hl xs _ r p)
      rcases h with h | h
      · exact .inl (rd_drop (hl _).2 h)
      · exact .inr h
  | .obj _ _, _, _, p => by cases p
  | .adr _, _, _, p => by cases p
  | .ty _, _, _, p => by cases p
  | .er _ _, _, _, p => by cases p
  | .dct _, _, _, p => by cases p
  | .dcn _ _ _, _, _, p => by cases p
theorem rp_drops {K : PySem.W.Frag} {O : List Addr} {H : Hp} {l : Addr} (hl : NoSeq H l) : ∀ (ds : List D) (vs : List V), RpAll K (hid O H) vs ds → plainAll ds = true → RpAll K (hid (l :: O) H) vs ds
  | [], _, h, _ => by cases h; exact .nil
  | x :: xs, _, h, p => by
    cases h with
    | cons h r =>
      have p' : (plain x && plainAll xs) = true := p
      rw [Bool.and_eq_true] at p'
      exact .cons (rp_drop hl x _ h p'.1) (rp_drops hl xs _ r p'.2)
end
theorem rp_back {K : PySem.W.Frag} {L L' O : List Addr} {H : Hp} {l : Addr} {v : V} {d : D} (hl : NoSeq H l) (hL : ∀ a ∈ L, a = l ∨ a ∈ L') (r : Rp K (hid (L' ++ O) H) v d) (p : plain d = true) : Rp K (hid (L ++ O) H) v d :=
  (rp_drop hl d v r p).mono (same_hid_sub fun a ha => by
    rcases List.mem_append.mp ha with q | q
    · rcases hL a q with e | e
      · rw [e]; exact List.mem_cons_self
      · exact List.mem_cons_of_mem _ (List.mem_append_left _ e)
    · exact List.mem_cons_of_mem _ (List.mem_append_right _ q))
theorem Slots.freezeW {pr : Program} {wd : World} {K : PySem.W.Frag} {O : List Addr} {H : Hp} {l : Addr} {kvs : List (D × D)} {ds : List D} : ∀ {σ : List (Option V)} {ρ : List SD} {L : List Addr} {i : Nat}, Slots pr wd K O H σ ρ L → ρ[i]? = some (.tw l kvs ds) → ∃ L1 L2 t, L = L1 ++ l :: L2 ∧ TDict pr wd K O H t l kvs ds ∧
    ∀ O' , Same (hid O H) (hid O' H) → l ∉ O' → Slots pr wd K O' H σ (ρ.set i (.val (.tup (.dcn pr wd kvs :: ds)))) (L1 ++ L2)
  | _, _, _, _, .nil, e => by simp at e
  | _, _, _, 0, .un _, e => by simp at e
  | _, _, _, i + 1, .un s, e => by
    obtain ⟨L1, L2, t, h1, h2, h4⟩ := Slots.freezeW (i := i) s (by simpa using e)
    exact ⟨L1, L2, t, h1, h2, fun O' a b => .un (h4 O' a b)⟩
  | _, _, _, 0, .val _ _, e => by simp at e
  | _, _, _, i + 1, .val r s, e => by
    obtain ⟨L1, L2, t, h1, h2, h4⟩ := Slots.freezeW (i := i) s (by simpa using e)
    exact ⟨L1, L2, t, h1, h2, fun O' a b => .val (r.mono a) (h4 O' a b)⟩
  | _, _, _, 0, .own h r s, e => by simp at e
  | _, _, _, i + 1, .own h r s, e => by
    obtain ⟨L1, L2, t, h1, h2, h4⟩ := Slots.freezeW (i := i) s (by simpa using e)
    exact ⟨_ :: L1, L2, t, by rw [h1]; rfl, h2, fun O' a b => .own h (r.mono a) (h4 O' a b)⟩
  | _, _, _, 0, .dic _ _, e => by simp at e
  | _, _, _, 0, .dk _ s, e => by simp at e
  | _, _, _, 0, .tw ⟨vs, h, r, n⟩ s, e => by
    simp at e
    obtain ⟨rfl, rfl, rfl⟩ := e
    exact ⟨[], _, _, rfl, ⟨vs, h, r, n⟩, fun O' a b => .val (.tup (same_t a h) (.cons (nd_rp n b a) (r.mono a))) (s.move (fun _ _ => rfl) a)⟩
  | _, _, _, i + 1, .dic h s, e => by
    obtain ⟨L1, L2, t, h1, h2, h4⟩ := Slots.freezeW (i := i) s (by simpa using e)
    exact ⟨_ :: L1, L2, t, by rw [h1]; rfl, h2, fun O' a b => .dic (h.move rfl a) (h4 O' a b)⟩
  | _, _, _, i + 1, .dk h s, e => by
    obtain ⟨L1, L2, t, h1, h2, h4⟩ := Slots.freezeW (i := i) s (by simpa using e)
    exact ⟨_ :: L1, L2, t, by rw [h1]; rfl, h2, fun O' a b => .dk (h.move rfl a) (h4 O' a b)⟩
  | _, _, _, i + 1, .tw h s, e => by
    obtain ⟨L1, L2, t, h1, h2, h4⟩ := Slots.freezeW (i := i) s (by simpa using e)
    exact ⟨_ :: L1, L2, t, by rw [h1]; rfl, h2, fun O' a b => .tw (h.move rfl a) (h4 O' a b)⟩
  | _, _, _, 0, .ot _ _ _, e => by simp at e
  | _, _, _, i + 1, .ot h q s, e => by
    obtain ⟨L1, L2, t, h1, h2, h4⟩ := Slots.freezeW (i := i) s (by simpa using e)
    exact ⟨_, L2, t, by rw [q, h1, List.append_assoc], h2, fun O' a b => .ot (OT.mv _ h (fun _ _ => rfl) fun _ _ r => r.mono a) (List.append_assoc _ _ _) (h4 O' a b)⟩
theorem Env.freezeW {P : Hp} {L : List Addr} {n : Nat} {H : Hp} {σ : List (Option V)} {i : Nat} {l : Addr} {kvs : List (D × D)} {ds : List D} (E : Env c P L n H σ ρ) (h : ρ[i]? = some (.tw l kvs ds)) : ∃ L', Env c P L' n H σ (ρ.set i (.val (.tup (.dcn c.pr c.wd kvs :: ds)))) ∧ L'.Sublist L ∧ (∀ a ∈ L, a = l ∨ a ∈ L') ∧ l ∈ L ∧ ∃ xs, H l = some (.ext (DictBare c.pr c.wd xs l)) := by
  obtain ⟨Ls, sl, sb⟩ := E.slots
  obtain ⟨L1, L2, t, h1, ⟨vs, q1, q2, xs, h2, q3⟩, h4⟩ := sl.freezeW h
  have lL : l ∈ L := sb.subset (by rw [h1]; simp)
  have sub : (L.erase l).Sublist L := List.erase_sublist
  have nl : l ∉ L.erase l := E.nd.not_mem_erase
  have sb2 : (L1 ++ L2).Sublist (L.erase l) := by
    have nd := sb.nodup E.nd
    rw [h1] at nd
    have n1 : l ∉ L1 := fun q => by
      have := (List.nodup_append.mp nd).2.2 l q l List.mem_cons_self
      exact this rfl
    have q : (Ls.erase l).Sublist (L.erase l) := sb.erase l
    rw [h1, List.erase_append_right _ n1, List.erase_cons_head] at q
    exact q
  have nO : l ∉ (L.erase l) ++ c.O := fun q => by
    rcases List.mem_append.mp q with q | q
    · exact nl q
    · exact (E.fresh l lL).2 q
  have se : Same (hid (L ++ c.O) H) (hid ((L.erase l) ++ c.O) H) := same_hid_sub fun a ha => by
    rcases List.mem_append.mp ha with q | q
    · exact List.mem_append_left _ (sub.subset q)
    · exact List.mem_append_right _ q
  exact ⟨L.erase l, { nd := sub.nodup E.nd, fresh := fun l hl => E.fresh l (sub.subset hl), slots := ⟨_, h4 _ se nO, sb2⟩, lst := fun l hl => E.lst l (sub.subset hl), base := E.base, pers := E.pers.trans se, bO := E.bO, al := E.al, bag := E.bag }, sub, fun a ha => by by_cases q : a = l; exact .inl q; exact .inr ((List.mem_erase_of_ne q).mpr ha), lL, _, h2⟩
theorem Env.freezeK2 {P : Hp} {L : List Addr} {n : Nat} {H : Hp} {σ : List (Option V)} {i : Nat} {kvs : List (L2.Key × D)} (E : Env c P L n H σ ρ) (h : ρ[i]? = some (.dk kvs)) : ∃ L', Env c P L' n H σ (ρ.set i (.val (.dct kvs))) ∧ L'.Sublist L ∧ ∃ l xs, (∀ a ∈ L, a = l ∨ a ∈ L') ∧ l ∈ L ∧ H l = some (.dK xs) := by
  obtain ⟨Ls, sl, sb⟩ := E.slots
  obtain ⟨L1, l, L2, xs, h1, h2, h3, h4⟩ := sl.freezeK h
  have lL : l ∈ L := sb.subset (by rw [h1]; simp)
  have sub : (L.erase l).Sublist L := List.erase_sublist
  have nl : l ∉ L.erase l := E.nd.not_mem_erase
  have sb2 : (L1 ++ L2).Sublist (L.erase l) := by
    have nd := sb.nodup E.nd
    rw [h1] at nd
    have n1 : l ∉ L1 := fun q => by
      have := (List.nodup_append.mp nd).2.2 l q l List.mem_cons_self
      exact this rfl
    have q : (Ls.erase l).Sublist (L.erase l) := sb.erase l
    rw [h1, List.erase_append_right _ n1, List.erase_cons_head] at q
    exact q
  have nO : l ∉ (L.erase l) ++ c.O := fun q => by
    rcases List.mem_append.mp q with q | q
    · exact nl q
    · exact (E.fresh l lL).2 q
  have se : Same (hid (L ++ c.O) H) (hid ((L.erase l) ++ c.O) H) := same_hid_sub fun a ha => by
    rcases List.mem_append.mp ha with q | q
    · exact List.mem_append_left _ (sub.subset q)
    · exact List.mem_append_right _ q
  exact ⟨L.erase l, { nd := sub.nodup E.nd, fresh := fun l hl => E.fresh l (sub.subset hl), slots := ⟨_, h4 _ se nO, sb2⟩, lst := fun l hl => E.lst l (sub.subset hl), base := E.base, pers := E.pers.trans se, bO := E.bO, al := E.al, bag := E.bag }, sub, l, xs, fun a ha => by by_cases q : a = l; exact .inl q; exact .inr ((List.mem_erase_of_ne q).mpr ha), lL, h2⟩
theorem Slots.tw_at {pr : Program} {wd : World} {K : PySem.W.Frag} {O : List Addr} {H : Hp} {l : Addr} {kvs lvs : List (D × D)} {ds : List D} : ∀ {σ : List (Option V)} {ρ : List SD} {L : List Addr} {i : Nat}, Slots pr wd K O H σ ρ L → L.Nodup → ρ[i]? = some (.tw l kvs ds) → ∃ t, σ[i]? = some (some (.ref t)) ∧ l ∈ L ∧ TDict pr wd K O H t l kvs ds ∧
    ∀ (o : HO), NDict pr wd K O (upd H l o) l lvs → hid O (upd H l o) = hid O H → Slots pr wd K O (upd H l o) σ (ρ.set i (.tw l lvs ds)) L
  | _, _, _, _, .nil, _, e => by simp at e
  | _, _, _, 0, .un _, _, e => by simp at e
  | _, _, _, i + 1, .un s, nd, e => by
    obtain ⟨t, h1, h2, h3, h5⟩ := Slots.tw_at (i := i) s nd (by simpa using e)
    exact ⟨t, by simpa using h1, h2, h3, fun ys a b => .un (h5 ys a b)⟩
  | _, _, _, 0, .val _ _, _, e => by simp at e
  | _, _, _, i + 1, .val r s, nd, e => by
    obtain ⟨t, h1, h2, h3, h5⟩ := Slots.tw_at (i := i) s nd (by simpa using e)
    exact ⟨t, by simpa using h1, h2, h3, fun ys a b => .val (by rw [b]; exact r) (h5 ys a b)⟩
  | _, _, _, 0, .own _ _ _, _, e => by simp at e
  | _, _, _, i + 1, .own h r s, nd, e => by
    obtain ⟨t, h1, h2, h3, h5⟩ := Slots.tw_at (i := i) s (List.nodup_cons.mp nd).2 (by simpa using e)
    exact ⟨t, by simpa using h1, List.mem_cons_of_mem _ h2, h3, fun ys a b => .own ((upd_ne fun e => (List.nodup_cons.mp nd).1 (by rw [e]; exact h2)).trans h) (by rw [b]; exact r) (h5 ys a b)⟩
  | _, _, _, 0, .dic h s, nd, e => by simp at e
  | _, _, _, 0, .dk h s, nd, e => by simp at e
  | _, _, _, 0, .tw ⟨vs, h, r, q⟩ s, nd, e => by
    simp at e
    obtain ⟨rfl, rfl, rfl⟩ := e
    exact ⟨_, rfl, List.mem_cons_self, ⟨vs, h, r, q⟩, fun ys a b => .tw ⟨vs, by rw [b]; exact h, by rw [b]; exact r, a⟩ (s.move (fun l hl => upd_ne fun e => (List.nodup_cons.mp nd).1 (by rw [← e]; exact hl)) (by rw [b]; exact Same.refl _))⟩
  | _, _, _, i + 1, .dic h s, nd, e => by
    obtain ⟨t, h1, h2, h3, h5⟩ := Slots.tw_at (i := i) s (List.nodup_cons.mp nd).2 (by simpa using e)
    exact ⟨t, by simpa using h1, List.mem_cons_of_mem _ h2, h3, fun ys a b => .dic (h.move (upd_ne fun e => (List.nodup_cons.mp nd).1 (by rw [e]; exact h2)) (by rw [b]; exact Same.refl _)) (h5 ys a b)⟩
  | _, _, _, i + 1, .dk h s, nd, e => by
    obtain ⟨t, h1, h2, h3, h5⟩ := Slots.tw_at (i := i) s (List.nodup_cons.mp nd).2 (by simpa using e)
    exact ⟨t, by simpa using h1, List.mem_cons_of_mem _ h2, h3, fun ys a b => .dk (h.move (upd_ne fun e => (List.nodup_cons.mp nd).1 (by rw [e]; exact h2)) (by rw [b]; exact Same.refl _)) (h5 ys a b)⟩
  | _, _, _, i + 1, .tw h s, nd, e => by
    obtain ⟨t, h1, h2, h3, h5⟩ := Slots.tw_at (i := i) s (List.nodup_cons.mp nd).2 (by simpa using e)
    exact ⟨t, by simpa using h1, List.mem_cons_of_mem _ h2, h3, fun ys a b => .tw (h.move (upd_ne fun e => (List.nodup_cons.mp nd).1 (by rw [e]; exact h2)) (by rw [b]; exact Same.refl _)) (h5 ys a b)⟩
  | _, _, _, 0, .ot _ _ _, _, e => by simp at e
  | _, _, _, i + 1, .ot h q s, nd, e => by
    subst q
    obtain ⟨t, h1, h2, h3, h5⟩ := Slots.tw_at (i := i) s (List.nodup_append.mp nd).2.1 (by simpa using e)
    exact ⟨t, by simpa using h1, List.mem_append_right _ h2, h3, fun ys a b => .ot (OT.mv _ h (fun x hx => upd_ne fun e => (List.nodup_append.mp nd).2.2 x hx _ h2 e) fun v d r => by rw [b]; exact r) rfl (h5 ys a b)⟩
section
variable {pr : Program} {wd : World} {K : PySem.W.Frag} {O : List Addr} {H : Hp} {σ : List (Option V)} {ρ : List SD} {L : List Addr}
theorem Slots.setW {t l : Addr} {kvs : List (D × D)} {ds : List D} (hx : TDict pr wd K O H t l kvs ds) (hn : l ∉ L) : ∀ {σ : List (Option V)} {ρ : List SD} {L : List Addr} (i : Nat), i < ρ.length → Slots pr wd K O H σ ρ L →
    ∃ L1 L2 L3, Slots pr wd K O H (σ.set i (some (.ref t))) (ρ.set i (.tw l kvs ds)) (L1 ++ l :: L2) ∧ L = L1 ++ L3 ∧ L2.Sublist L3
  | _, _, _, _, h, .nil => by simp at h
  | _, _, L, 0, _, .un s => ⟨[], L, L, .tw hx s, rfl, List.Sublist.refl _⟩
  | _, _, L, 0, _, .val _ s => ⟨[], L, L, .tw hx s, rfl, List.Sublist.refl _⟩
  | _, _, _ :: L, 0, _, .own _ _ s => ⟨[], L, _, .tw hx s, rfl, List.sublist_cons_self _ _⟩
  | _, _, _ :: L, 0, _, .dic _ s => ⟨[], L, _, .tw hx s, rfl, List.sublist_cons_self _ _⟩
  | _, _, _ :: L, 0, _, .dk _ s => ⟨[], L, _, .tw hx s, rfl, List.sublist_cons_self _ _⟩
  | _, _, _ :: L, 0, _, .tw _ s => ⟨[], L, _, .tw hx s, rfl, List.sublist_cons_self _ _⟩
  | _, _, _, i + 1, h, .un s => by
    obtain ⟨L1, L2, L3, h1, h2⟩ := Slots.setW hx hn i (by simpa using h) s
    exact ⟨L1, L2, L3, .un h1, h2⟩
  | _, _, _, i + 1, h, .val q s => by
    obtain ⟨L1, L2, L3, h1, h2⟩ := Slots.setW hx hn i (by simpa using h) s
    exact ⟨L1, L2, L3, .val q h1, h2⟩
  | _, _, _, i + 1, h, .own q r s => by
    obtain ⟨L1, L2, L3, h1, h2, h3⟩ := Slots.setW hx hn i (by simpa using h) s
    exact ⟨_ :: L1, L2, L3, .own q r h1, by rw [h2]; rfl, h3⟩
  | _, _, _, i + 1, h, .dic q s => by
    obtain ⟨L1, L2, L3, h1, h2, h3⟩ := Slots.setW hx hn i (by simpa using h) s
    exact ⟨_ :: L1, L2, L3, .dic q h1, by rw [h2]; rfl, h3⟩
  | _, _, _, i + 1, h, .dk q s => by
    obtain ⟨L1, L2, L3, h1, h2, h3⟩ := Slots.setW hx hn i (by simpa using h) s
    exact ⟨_ :: L1, L2, L3, .dk q h1, by rw [h2]; rfl, h3⟩
  | _, _, _, i + 1, h, .tw q s => by
    obtain ⟨L1, L2, L3, h1, h2, h3⟩ := Slots.setW hx hn i (by simpa using h) s
    exact ⟨_ :: L1, L2, L3, .tw q h1, by rw [h2]; rfl, h3⟩
  | _, _, _, 0, _, .ot _ q s => ⟨[], _, _, .tw hx s, rfl, by rw [q]; exact List.sublist_append_right _ _⟩
  | _, _, _, i + 1, h, .ot p q s => by
    obtain ⟨L1, L2, L3, h1, h2, h3⟩ := Slots.setW hx hn i (by simpa using h) s
    exact ⟨_, L2, L3, .ot p (List.append_assoc _ _ _) h1, by rw [q, h2, List.append_assoc], h3⟩
end
theorem Env.tw_at {P : Hp} {L : List Addr} {n : Nat} {H : Hp} {σ : List (Option V)} {i : Nat} {l : Addr} {kvs : List (D × D)} {ds : List D} (E : Env c P L n H σ ρ) (h : ρ[i]? = some (.tw l kvs ds)) : ∃ t, σ[i]? = some (some (.ref t)) ∧ l ∈ L ++ c.O ∧ TDict c.pr c.wd c.K (L ++ c.O) H t l kvs ds ∧
    ∀ (o : HO) (lvs : List (D × D)), NDict c.pr c.wd c.K (L ++ c.O) (upd H l o) l lvs → Env c P L n (upd H l o) σ (ρ.set i (.tw l lvs ds)) := by
  obtain ⟨Ls, sl, sb⟩ := E.slots
  have nd := sb.nodup E.nd
  obtain ⟨t, h1, h2, h3, _⟩ := sl.tw_at (lvs := kvs) nd h
  have lL := sb.subset h2
  have hm : l ∈ L ++ c.O := List.mem_append_left _ lL
  have hO : l ∉ c.O := (E.fresh l lL).2
  refine ⟨t, h1, hm, h3, fun o lvs hy => ?_⟩
  have bs : Same (hid c.B c.H0) (hid c.B (upd H l o)) := same_upd_old (E.fresh l lL).1 E.base
  obtain ⟨t', g1, g2, g3, g5⟩ := sl.tw_at (lvs := lvs) nd h
  exact { nd := E.nd, fresh := E.fresh, slots := ⟨Ls, g5 o hy (hid_upd_in hm), sb⟩,
          lst := fun a ha => by
            by_cases e : a = l
            · exact ⟨_, by rw [e, upd_same]⟩
            · rw [upd_ne e]; exact E.lst a ha,
          bag := fun b q hb => (E.bag b q hb).move (fun o h => by rw [upd_ne fun e : b = l => hO (e ▸ (E.bO b q hb).1)]; exact h) fun o h => by rw [upd_ne fun e : q = l => hO (e ▸ (E.bO b q hb).2.1)]; exact h,
          base := bs, pers := by rw [hid_upd_in hm]; exact E.pers, bO := E.bO,
          al := fun o ho => by rw [upd_ne fun e : o = l => hO (e ▸ ho)]; exact E.al o ho }
/-! ### a tuple whose head is a dict of one's own -/
theorem ws_freezeW (i : Nat) {l : Addr} {kvs : List (D × D)} {ds : List D} (h : ρ[i]? = some (.tw l kvs ds)) (k : WS c ts (ρ.set i (.val (.tup (.dcn c.pr c.wd kvs :: ds)))) n Ψ) : WS c ts ρ n Ψ := fun P L σ H Dn E A => by
  obtain ⟨L', E', _⟩ := E.freezeW h
  exact k P L' σ H Dn E' A
theorem wt_lookW (i : Nat) {Φ : Nat → Bool → Prop} {l : Addr} {kvs : List (D × D)} {ds : List D} (h : ρ[i]? = some (.tw l kvs ds)) (k : WT c t (ρ.set i (.val (.tup (.dcn c.pr c.wd kvs :: ds)))) n Φ) : WT c t ρ n Φ := fun P L σ H Q E q => by
  obtain ⟨L', E', sub, _⟩ := E.freezeW h
  exact k P L' σ H Q E' fun b n1 H1 s1 j1 k1 => q b n1 H1 s1 j1 k1
theorem we_lookW (i : Nat) {l : Addr} {kvs : List (D × D)} {ds : List D} (h : ρ[i]? = some (.tw l kvs ds)) (k : WE c te (ρ.set i (.val (.tup (.dcn c.pr c.wd kvs :: ds)))) n fun n1 d => plain d = true ∧ Φ n1 d) : WE c te ρ n Φ := fun P L σ H Q E q => by
  obtain ⟨L', E', sub, hL, lL, xs, hx⟩ := E.freezeW h
  refine k P L' σ H Q E' fun v d n1 H1 s1 j1 r1 ⟨hs, k1⟩ => q v d n1 H1 s1 j1 ?_ k1
  have hB : l ∉ c.B := E.notB lL
  have h1 : H1 l = some (.ext (DictBare c.pr c.wd xs l)) := (hid_some.mp (s1 l _ (hid_some.mpr ⟨hB, hx⟩))).2
  exact rp_back (noSeq_ext h1) hL r1 hs
/-- an own dict looked at; what comes out hangs on no dict -/
theorem we_lookKp (i : Nat) {kvs : List (L2.Key × D)} (h : ρ[i]? = some (.dk kvs)) (k : WE c te (ρ.set i (.val (.dct kvs))) n fun n1 d => plain d = true ∧ Φ n1 d) : WE c te ρ n Φ := fun P L σ H Q E q => by
  obtain ⟨L', E', sub, l, xs, hL, lL, hx⟩ := E.freezeK2 h
  refine k P L' σ H Q E' fun v d n1 H1 s1 j1 r1 ⟨hs, k1⟩ => q v d n1 H1 s1 j1 ?_ k1
  have hB : l ∉ c.B := E.notB lL
  have h1 : H1 l = some (.dK xs) := (hid_some.mp (s1 l _ (hid_some.mpr ⟨hB, hx⟩))).2
  exact rp_back (noSeq_dK h1) hL r1 hs
/-- world[0][k] = e -/
theorem ws_wput {i : Nat} {l : Addr} {kvs : List (D × D)} {ds : List D} {tk : TE} (h0 : ρ[i]? = some (.tw l kvs ds)) (hz : kvs.length < 16777216) (h : WE c te ρ n fun n1 vd => WE c tk ρ n1 fun n2 kd => keyD kd = true ∧ Ψ.nx n2 (ρ.set i (.tw l (putD kvs kd vd) ds))) : WS c (tAsg te (gSub (tOp (rIx c.K) (tVar i) (tC (.int 0))) tk (rSetN c.pr c.wd c.K))) ρ n Ψ := fun P L σ H Dn E A => by
  refine h P L σ H _ E fun y vd n1 H1 s1 j1 r1 h1 => ?_
  have E1 := E.step s1 j1
  obtain ⟨t, g1, gL, ⟨vs, g2, _, _⟩, _⟩ := E1.tw_at h0
  refine ⟨.ref t, g1, .inr (.inl ⟨t, _, 0, .ref l, rfl, rfl, same_t same_hid g2, atI_nat (xs := V.ref l :: vs) (j := 0) rfl, ?_⟩)⟩
  refine h1 P L σ H1 _ E1 fun z kd n2 H2 s2 j2 r2 ⟨hk, k⟩ => ?_
  have E2 := E1.step s2 j2
  obtain ⟨t', g1', gL', ⟨vs', g2', g3', g4'⟩, up⟩ := E2.tw_at h0
  refine ⟨L ++ c.O, l, kvs, kd, vd, rfl, gL, g4', r2, hk, r1.mono (E1.sameLO s2), by rw [sizeLine_eq]; exact hz, fun φ hN => ?_⟩
  exact A.nx L n2 _ σ _ (up _ _ hN) k
theorem Env.newAny {P : Hp} {L : List Addr} {n : Nat} {H : Hp} {σ : List (Option V)} {D : Addr} {o : HO} (E : Env c P L n H σ ρ) (hD : H D = none) : Env c P (D :: L) n (upd H D o) σ ρ := by
  have w := E.new hD
  obtain ⟨Ls, sl, sb⟩ := E.slots
  have e0 : hid ((D :: L) ++ c.O) (upd H D o) = hid (L ++ c.O) H := hid_new_in hD
  exact { nd := List.nodup_cons.mpr ⟨w.2.2, E.nd⟩,
          fresh := fun l hl => by
            rcases List.mem_cons.mp hl with e | e
            · subst e; exact ⟨w.1, w.2.1⟩
            · exact E.fresh l e,
          slots := ⟨Ls, sl.move (fun l hl => upd_ne fun e => w.2.2 (e ▸ sb.subset hl)) (by rw [e0]; exact Same.refl _), sb.cons _⟩,
          lst := fun l hl => by
            rcases List.mem_cons.mp hl with e | e
            · subst e; exact ⟨_, upd_same⟩
            · rw [upd_ne fun q : l = D => w.2.2 (q ▸ e)]; exact E.lst l e,
          bag := (E.newT hD).2.1,
          base := E.base.trans (E.newT hD).1,
          pers := by rw [e0]; exact E.pers,
          bO := E.bO,
          al := fun o ho => by rw [upd_ne fun e : o = D => w.2.1 (e ▸ ho)]; exact E.al o ho }
/-- ({}, ..) -/
theorem ws_wnew {i : Nat} (hi : i < ρ.length) (h : WA c as ρ n fun n1 ds => ds.length < 16777216 ∧ ∀ l, Ψ.nx n1 (ρ.set i (.tw l [] ds))) : WS c (tAsg (tTup (tCons (tDNewN c.pr c.wd) as)) (gName i)) ρ n Ψ := fun P L σ H Dn E A => by
  intro p hp hs
  have E1 := E.newAny (o := .ext (DictBare c.pr c.wd [] p)) hp
  have w := E.new hp
  obtain ⟨Ls, sl0, sb⟩ := E.slots
  have nLs : p ∉ Ls := fun q => w.2.2 (sb.subset q)
  refine h P (p :: L) σ _ _ E1 fun vs ds n2 H2 s2 j2 r2 ⟨hz, k⟩ => ?_
  refine ⟨by show vs.length + 1 ≤ _; rw [r2.length, sizeLine_eq]; omega, fun t ht => ?_⟩
  have E2 := E1.step s2 j2
  have hp2 : H2 p = some (.ext (DictBare c.pr c.wd [] p)) := (hid_some.mp (s2 p _ (hid_some.mpr ⟨E1.notB List.mem_cons_self, upd_same⟩))).2
  have T := E2.newT (o := .tup (.ref p :: vs)) ht
  have E3 := E2.step T.1 T.2.1
  obtain ⟨Ls3, sl3, sb3⟩ := E3.slots
  have eL := sl3.inj sl0
  subst eL
  have npt : p ≠ t := fun e => by rw [← e, hp2] at ht; cases ht
  have td : TDict c.pr c.wd c.K ((p :: L) ++ c.O) (upd H2 t (.tup (.ref p :: vs))) t p [] ds := by
    refine ⟨vs, .inl (.inl ?_), r2.mono (rp_upd (K := c.K) ht), [], by rw [upd_ne npt]; exact hp2, hs, .nil⟩
    exact hid_at T.2.2
  obtain ⟨L1, L2, L3, sl4, eL, sub⟩ := Slots.setW td nLs i hi sl3
  have mv : ∃ Lp : List Addr, (L1 ++ p :: L2).Sublist Lp ∧ Lp.Perm (p :: L) := by
    rw [eL] at sb
    have h5 : (L1 ++ L2).Sublist L := (List.Sublist.append_left sub L1).trans sb
    exact ins_sub h5
  obtain ⟨Lp, sLp, pLp⟩ := mv
  have mem : ∀ a, a ∈ Lp ++ c.O ↔ a ∈ (p :: L) ++ c.O := fun a => by
    rw [List.mem_append, List.mem_append, pLp.mem_iff]
  refine A.nx Lp n2 _ _ _ ?_ (k p)
  exact { nd := pLp.nodup_iff.mpr E3.nd,
          fresh := fun l hl => E3.fresh l (pLp.mem_iff.mp hl),
          slots := ⟨_, sl4.move (fun _ _ => rfl) (same_hid_sub fun a ha => (mem a).mp ha), sLp⟩,
          lst := fun l hl => E3.lst l (pLp.mem_iff.mp hl),
          bag := E3.bag,
          base := E3.base,
          pers := E3.pers.trans (same_hid_sub fun a ha => (mem a).mp ha),
          bO := E3.bO, al := E3.al }
/-! ### dicts whose keys are tuples as data -/
theorem r2_ixN {pr : Program} {wd : World} {K : PySem.W.Frag} {Φ : D → Prop} {kvs : List (D × D)} {kd f : D} (hk : keyD kd = true) (hl : lookD kvs kd = some f) (k : Φ f) : R2D K (rIxR pr wd K) (.dcn pr wd kvs) kd Φ := fun O H x y Q rx ry _ q => by
  obtain ⟨l, rfl, nd⟩ := nd_of_rp rx
  exact ⟨O, l, kvs, kd, f, rfl, nd, ry, hk, hl, fun u ru => q u f H (Same.refl _) ru k⟩
def rInN (pr : Program) (wd : World) (K : PySem.W.Frag) : R2 := fun x y H Q => ∃ (O : List Addr) (l : Addr) (kvs : List (D × D)) (kd : D), y = .ref l ∧ NDictR pr wd K O H l kvs ∧ Rp K (hid O H) x kd ∧ keyD kd = true ∧ Q (.bl (lookD kvs kd).isSome) H
theorem r2_inN {pr : Program} {wd : World} {K : PySem.W.Frag} {Φ : D → Prop} {kvs : List (D × D)} {kd : D} (hk : keyD kd = true) (k : Φ (.bl (lookD kvs kd).isSome)) : R2D K (rInN pr wd K) kd (.dcn pr wd kvs) Φ := fun O H x y Q rx ry _ q => by
  obtain ⟨l, rfl, nd⟩ := nd_of_rp ry
  exact ⟨O, l, kvs, kd, rfl, nd, rx, hk, q _ _ H (Same.refl _) (.bl _) k⟩
theorem x_inN {X : Cx} (pr : Program) (wd : World) (K : PySem.W.Frag) (hu : X.A.units + 65 < cLine) (hp : X.prog = pr := by rfl) (hw : X.w = wd := by rfl) (hK : X.K = K := by rfl) : OpR X (compareOp .In) (rInN pr wd K) := by
  subst hp; subst hw; subst hK
  intro pins s σ H x y v u Q I rx ry h
  obtain ⟨O, l, kvs, kd, rfl, ⟨xs, n1, n2, n3⟩, rk, hk, q⟩ := h
  cases ry
  obtain ⟨a, ea, eb, is⟩ := key_is I rk rx hk
  subst eb
  have dd := nd_ofR I n1 n3
  refine wpAny_in_heap (by show X.A.in1.units + 8 < cLine; have : X.A.in1.units = X.A.units + 1 := rfl; omega) is n2 dd ?_
  have e : (lookD kvs kd).isSome = (atKey xs (nk kd)).isSome := by
    rcases ent_look (kd := kd) n3 with ⟨e1, e2⟩ | ⟨v', a', u', w, e1, e2, _⟩
    · rw [e1, e2]; rfl
    · rw [e1, e2]; rfl
  rw [← e]
  exact ⟨.bl _, H, I.tok _, rfl, q⟩
/-! ### dicts of ints and texts -/
theorem we_dnewK (k : Φ n (.dct [])) : WE c tDNewK ρ n Φ := fun P L σ H Q E q => by
  intro p hp
  have z := E.newT (o := .dK []) hp
  exact q _ _ n _ z.1 z.2.1 (.dct (.inl (hid_at z.2.2)) .nil) k
theorem we_kcopy {i : Nat} {kvs : List (L2.Key × D)} (h0 : ρ[i]? = some (.dk kvs)) (k : Φ n (.dct kvs)) : WE c (tCB (rDictD c.K) (tCons (tVar i) tNil)) ρ n Φ := fun P L σ H Q E q => by
  obtain ⟨l, g1, _, ⟨xs, g2, g3⟩, _⟩ := E.dk_at h0
  refine ⟨.ref l, g1, l, xs, rfl, .inl g2, fun p hp => ?_⟩
  have z := E.newT (o := .dK xs) hp
  exact q _ _ n _ z.1 z.2.1 (.dct (.inl (hid_at z.2.2)) (g3.mono (rp_upd (K := c.K) hp))) k
theorem rc_dictK {K : PySem.W.Frag} {Φ : D → Prop} {kvs : List (L2.Key × D)} (k : Φ (.dct kvs)) : RCD K (rDictD K) [.dct kvs] Φ := rc_dict k
/-- two dicts of the same -/
def rEqK (K : PySem.W.Frag) (neg : Bool) : R2 := fun x y H Q => ∃ (O : List Addr) (kvs lvs : List (L2.Key × D)), Rp K (hid O H) x (.dct kvs) ∧ Rp K (hid O H) y (.dct lvs) ∧ kvs.length = lvs.length ∧ (∀ kv ∈ kvs, ∃ d, lookK lvs kv.1 = some d ∧ fit kv.2 = true ∧ fit d = true ∧ eqD kv.2 d = true) ∧ Q (.bl (!neg)) H
theorem r2_eqK {K : PySem.W.Frag} {neg : Bool} {Φ : D → Prop} {kvs lvs : List (L2.Key × D)} (hl : kvs.length = lvs.length) (h : ∀ kv ∈ kvs, ∃ d, lookK lvs kv.1 = some d ∧ fit kv.2 = true ∧ fit d = true ∧ eqD kv.2 d = true) (k : Φ (.bl (!neg))) : R2D K (rEqK K neg) (.dct kvs) (.dct lvs) Φ := fun O H x y Q rx ry _ q =>
  ⟨O, kvs, lvs, rx, ry, hl, h, q _ _ H (Same.refl _) (.bl _) k⟩
theorem hitsD {X : Cx} {pins : List (Addr × Obj)} {σ : L2.St} {H : Hp} {s : Shared} (I : Inv X pins σ H s) {A : Around} (hu : A.in1.units + 64 < cLine) {O : List Addr} {ls : List (L2.Key × V)} {lvs : List (L2.Key × D)} (rl : RpKs X.K (hid O H) ls lvs) {vb : List (L2.Key × Value)} (rb : KV ls vb) :
    ∀ {ks : List (L2.Key × V)} {kvs : List (L2.Key × D)}, RpKs X.K (hid O H) ks kvs → ∀ {va : List (L2.Key × Value)}, KV ks va → (∀ kv ∈ kvs, ∃ d, lookK lvs kv.1 = some d ∧ fit kv.2 = true ∧ fit d = true ∧ eqD kv.2 d = true) → PySem.W.KeqHits A.in1 s vb va true
  | _, _, .nil, _, ra, _ => by cases ra; exact .nil
  | _, _, .cons (x := x) h r, _, ra, hp => by
    cases ra with
    | @cons _ q _ qs g t =>
      obtain ⟨g1, g2⟩ := g
      obtain ⟨d, e1, e2, e3, e4⟩ := hp _ List.mem_cons_self
      obtain ⟨u, hu1, ru⟩ := rl.look.1 d e1
      have rr : RelO (some u) (valueAt vb x) := by rw [← hu1]; exact rb.val x
      obtain ⟨y, hy, ry⟩ := rr.some_of
      obtain ⟨key, v⟩ := q
      have g1' : x = key := g1
      subst g1'
      obtain ⟨as, r1⟩ := Dp.reads I _ _ v (Dp.mono same_hid (h.dp (fit_p e2))) g2
      obtain ⟨bs, r2⟩ := Dp.reads I _ _ y (Dp.mono same_hid (ru.dp (fit_p e3))) ry
      have z := PySem.W.keq_at (A := A) r1 r2 (fit_s e2) (fit_s e3) hu
      rw [show PyData.eqv (dpy _) (dpy d) = true from e4] at z
      exact .hit (b := true) hy z (hitsD I hu rl rb r t fun kv hk => hp kv (List.mem_cons_of_mem _ hk))
theorem x_neK {X : Cx} (K : PySem.W.Frag) (hu : X.A.units + 65 < cLine) (hK : X.K = K := by rfl) : OpR X (compareOp .NotEq) (rEqK K true) := by
  subst hK
  intro pins s σ H x y v u Q I rx ry h
  obtain ⟨O, kvs, lvs, hx, hy, hl, hh, q⟩ := h
  cases hx with
  | @dct a ks _ ha ra =>
    cases hy with
    | @dct b ls _ hb rb =>
      cases rx
      cases ry
      obtain ⟨_, ya, va, va', da⟩ := (same_rd same_hid ha).ok I.hok
      obtain ⟨_, yb, vb, vb', db⟩ := (same_rd same_hid hb).ok I.hok
      refine PySem.W.keq_ne (knd := mixKind X.prog X.w) (r := true) ya yb da db (by omega) (fun _ => hitsD (A := X.A) I (by show X.A.units + 1 + 64 < cLine; omega) rb vb' ra va' hh) ?_
      have e : va.length = vb.length := by rw [← va'.length, ← vb'.length, ra.length, rb.length]; exact hl
      rw [show (va.length == vb.length && true) = true from by rw [e]; simp]
      exact ⟨.bl false, H, I, rfl, q⟩
/-! ### own lists -/
theorem rp_scals {K : PySem.W.Frag} {H H' : Hp} : ∀ {xs : List V} {es : List D}, RpAll K H xs es → (∀ e ∈ es, scalar e = true) → RpAll K H' xs es
  | _, _, .nil, _ => .nil
  | _, _, .cons h r, hs => .cons (h.scal (hs _ List.mem_cons_self)) (rp_scals r fun e he => hs e (List.mem_cons_of_mem _ he))
/-- a new list of scalars, made while an own list is looked at -/
theorem wf_look (i : Nat) {ds : List D} {Φ : Nat → List D → Prop} (h : ρ[i]? = some (.own ds)) (k : WF c te (ρ.set i (.val (.lst ds))) n fun n1 es => (∀ e ∈ es, scalar e = true) ∧ Φ n1 es) : WF c te ρ n Φ := fun P L σ H Q E q => by
  obtain ⟨L', E', sub⟩ := E.freeze h
  refine k P L' σ H Q E' fun p xs es n1 H1 s1 hp hp1 r1 j1 ⟨hs, k1⟩ => q p xs es n1 H1 s1 hp hp1 ?_ j1 k1
  exact rp_scals r1 hs
/-- x.append(y.pop(e)) -/
theorem ws_appendPop {i j : Nat} {ds es : List D} (h0 : ρ[i]? = some (.own ds)) (h1 : ρ[j]? = some (.own es)) (hij : i ≠ j) (h : WE c te ρ n fun n1 d => ∃ (k : Nat) (y : D), d = .int (k : Int) ∧ es[k]? = some y ∧ k < 2 ^ 62 ∧ ds.length < sizeLine ∧ Ψ.nx n1 ((ρ.set j (.own (es.eraseIdx k))).set i (.own (ds ++ [y])))) :
    WS c (tDrop (tBM c.K "list" rAppend (tVar i) (tCons (tBM c.K "list" rPopAt (tVar j) (tCons te tNil)) tNil))) ρ n Ψ := fun P L σ H Dn E A => by
  obtain ⟨l, xs, a1, a2, a3, a4⟩ := E.own_at h0
  obtain ⟨m, ys, b1, b2, b3, b4⟩ := E.own_at h1
  refine ⟨.ref l, a1, .inl ⟨rfl, xs, .inl (.inl a2)⟩, ?_⟩
  refine ⟨.ref m, b1, .inl ⟨rfl, ys, .inl (.inl b2)⟩, ?_⟩
  refine h P L σ H _ E fun v d n1 H1 s1 j1 r1 ⟨k, y, e, hk, hk2, hz, kk⟩ => ?_
  subst e
  cases r1
  have E1 := E.step s1 j1
  obtain ⟨m', ys', c1, c2, c3, c4⟩ := E1.own_at h1
  rw [b1] at c1
  cases c1
  obtain ⟨u, hu, ru⟩ := c3.get' hk
  have hlt : k < ys'.length := (List.getElem?_eq_some_iff.mp hu).1
  refine ⟨m, ys', (k : Int), k, u, rfl, rfl, c2, by omega, by omega, ?_, hu, ?_⟩
  · exact (ixN_seq (n := ys'.length) (i := (k : Int)) (j := k) (by unfold ixN; rw [if_pos (by omega), if_pos (by omega)]; simp)).1
  have E2 := (c4 (ys'.eraseIdx k) (es.eraseIdx k) (c3.eraseIdx k)).1
  have Ep := (E1.pers'.own_at h1)
  obtain ⟨m'', ys'', f1, f2, f3, f4⟩ := Ep
  rw [b1] at f1
  cases f1
  have E2p := (f4 (ys'.eraseIdx k) (es.eraseIdx k) (c3.eraseIdx k)).1.pers
  have h0' : (ρ.set j (.own (es.eraseIdx k)))[i]? = some (.own ds) := by rw [List.getElem?_set_ne (Ne.symm hij)]; exact h0
  obtain ⟨l', xs', g1, g2, g3, g4⟩ := E2.own_at h0'
  rw [a1] at g1
  cases g1
  refine ⟨l, xs', u, rfl, rfl, g2, by rw [g3.length]; exact hz, ?_⟩
  exact A.nx L n1 _ σ _ (g4 (xs' ++ [u]) (ds ++ [y]) (g3.append (.cons (ru.mono E2p) .nil))).1 kk
/-- x[i] = e, x one's own -/
theorem ws_lset {i : Nat} {ds : List D} {tk : TE} (h0 : ρ[i]? = some (.own ds)) (h : WE c te ρ n fun n1 vd => WE c tk ρ n1 fun n2 kd => ∃ k : Nat, kd = .int (k : Int) ∧ k < ds.length ∧ Ψ.nx n2 (ρ.set i (.own (ds.set k vd)))) : WS c (tAsg te (gSub (tVar i) tk rSetL)) ρ n Ψ := fun P L σ H Dn E A => by
  refine h P L σ H _ E fun y vd n1 H1 s1 j1 r1 h1 => ?_
  have E1 := E.step s1 j1
  obtain ⟨l, xs, a1, a2, a3, a4⟩ := E1.own_at h0
  refine ⟨.ref l, a1, ?_⟩
  refine h1 P L σ H1 _ E1 fun z kd n2 H2 s2 j2 r2 ⟨k, e, hk, kk⟩ => ?_
  subst e
  cases r2
  have E2 := E1.step s2 j2
  obtain ⟨l', xs', g1, g2, g3, g4⟩ := E2.own_at h0
  rw [a1] at g1
  cases g1
  refine ⟨l, xs', (k : Int), k, rfl, rfl, g2, ?_, ?_⟩
  · rw [g3.length]
    unfold ixN
    rw [if_pos (by omega), if_pos (by omega)]; simp
  · exact A.nx L n2 _ σ _ (g4 _ _ (g3.set (r1.mono (E1.sameLO s2)) k)).1 kk
end
end L3
/-! L3u: sorted(d, reverse=True) of a dict with int keys. -/
namespace L3
open PySem L2 PySem.W PyProof.Rows PySem.Calls PyProof.V
section
variable {prog : Program} {w : World} {A : Around} {E : Value → Shared → Prop} {s : Shared}
theorem sorted_dictR {ns : List Int} {b : Bool} {d : Addr} {es : Array DictEntry} {ep : Nat} {Q : Value → Shared → Prop} (hh : A.handled = none) (lo : (d == sysModules) = false) (hD : s.heap.DictRaw d es ep)
    (hi : IntsAre (es.toList.map (·.key)) ns) (hn : es.size ≤ sizeLine)
    (h : ∀ (h1 h2 : Heap) (tk : Nat) (out : Array Value) (c : Nat) (ns' : List Int), (∀ b o, s.heap.get? b = some o → h1.get? b = some o) → (∀ b o, h1.get? b = some o → h2.get? b = some o) → h2.get? h1.objs.size = some { cls := .type "list", data := .seq out c } → IntsAre out.toList ns' → ns'.Perm ns → Q (.ref h1.objs.size) { s with heap := h2, toks := tk }) :
    wpAny (model prog w) A (call (.builtin "sorted") [.ref d] [(Str.ofString "reverse", .bool b)]) Q E s := by
  refine call_function_entry_kw kind_sorted plain_sorted entry_sorted (PyProof.Rows.args_sorted_rev _ _) ?_
  unfold Builtin.«sorted»
  refine wpAny_bind (m := checkCount "sorted" 1 1 _) (wpAny_pure ?_)
  refine wpAny_bind (kdu_collect (A := A.in1) (KdlSrc.rawDict lo) hh hD hn fun h' tk acc hkp hacc => ?_)
  have hl : acc.toList = es.toList.map (·.key) := by
    apply List.ext_getElem?
    intro j
    by_cases hj : j < acc.size
    · obtain ⟨hi, hv⟩ := hacc.2 j acc[j] (by simp [hj])
      rw [Array.getElem?_toList, Array.getElem?_eq_getElem hj, List.getElem?_map, Array.getElem?_toList, Array.getElem?_eq_getElem hi, hv]; rfl
    · have hs : acc.size = es.size := hacc.1
      rw [Array.getElem?_toList, Array.getElem?_eq_none (by omega), List.getElem?_map, Array.getElem?_toList, Array.getElem?_eq_none (by omega)]; rfl
  have hz : acc.toList.length ≤ sizeLine := by rw [Array.length_toList, hacc.1]; exact hn
  refine wpAny_bind (wpAny_newList ?_ hz)
  rw [hl] at hz ⊢
  generalize hvs : es.toList.map (·.key) = vs at hi hz ⊢
  have ho : (h'.push { cls := .type "list", data := .seq vs.toArray }).get? h'.objs.size = some (seqObj "list" vs.toArray 0) := Heap.get?_push_size _ rfl
  refine wpAny_bind (wpAny_holding (wpAny_call_entry_kw slot_list_sort ⟨_, ho, rfl⟩ entry_list_sort ?_ (PyProof.Rows.args_list_sort_rev _ _)))
  refine SrtR.list_sort_ordR (s := { s with heap := h'.push { cls := .type "list", data := .seq vs.toArray }, toks := tk }) SrtO.swo_int ho hz (fun h2 => SrtO.ints_sortable hi h2) fun out h1 h2 => ?_
  obtain ⟨ns', k1, k2, _⟩ := SrtR.ints_outR hi h1 h2
  obtain ⟨c, hc⟩ := sortedHeap_at (out := (if b = true then out.toArray.reverse else out.toArray)) ho
  refine ⟨_, rfl, ?_⟩
  refine wpAny_pure ⟨_, rfl, h h' _ tk _ c ns' hkp ?_ hc k1 k2⟩
  intro b o q
  rw [sortedHeap_old (Nat.ne_of_lt (Heap.lt_size q)) (Nat.lt_of_lt_of_le (Heap.lt_size q) (by rw [Heap.size_push]; exact Nat.le_succ _))]
  exact Heap.get?_push_of_some _ q
end
def rSortKR (K : PySem.W.Frag) : List V → List V → Hp → VK → Prop := fun vs zs H Q => ∃ (O : List Addr) (v : V) (kvs : List (L2.Key × D)) (ns : List Int), vs = [v] ∧ zs = [.bl true] ∧ Rp K (hid O H) v (.dct kvs) ∧ kvs.map (·.1) = ns.map Sum.inl ∧
  ∀ (ns' : List Int) (p : Addr), ns'.Perm ns → H p = none → Q (.ref p) (upd H p (.lst (ns'.map V.int)))
theorem x_sortKR {X : Cx} (K : PySem.W.Frag) (hcalm : X.calm = true := by rfl) (hK : X.K = K := by rfl) : CallRK X (.builtin "sorted") [Str.ofString "reverse"] (rSortKR K) := by
  subst hK
  intro pins s σ H vs zs us ws Q I r rz h
  obtain ⟨O, v, kvs, ns, rfl, rfl, hx, hk, q⟩ := h
  cases hx with
  | @dct a xs _ hs rk =>
    obtain rfl := Vals.ref1 r
    obtain ⟨w1, rfl, e1⟩ := L2.vals1 rz
    obtain rfl : w1 = Value.bool true := e1
    obtain ⟨z, ya, va, va', da⟩ := (same_rd same_hid hs).ok I.hok
    obtain ⟨oa, es, ep, hoa, hcl, hda, hka, hpa, _⟩ := da
    have hlen : va.length = es.size := by rw [← hpa.length]; exact Array.length_toList
    have hll : xs.length = va.length := va'.length
    have hn : es.size ≤ sizeLine := by rw [← hlen, ← hll]; exact z
    have hi : IntsAre (es.toList.map (·.key)) ns := by
      have key : ∀ {es : List DictEntry} {va : List (L2.Key × Value)}, Pairs (mixKind X.prog X.w) es va → ∀ {xs : List (L2.Key × V)} {kvs : List (L2.Key × D)} {ns : List Int}, KV xs va → RpKs X.K (hid O H) xs kvs → kvs.map (·.1) = ns.map Sum.inl → IntsAre (es.map (·.key)) ns := by
        intro es va hp
        induction hp with
        | nil =>
          intro xs kvs ns h1 h2 h3
          cases h1
          cases h2
          cases ns with
          | nil => exact .nil
          | cons _ _ => cases h3
        | @cons e kv es va g1 g2 _ ih =>
          intro xs kvs ns h1 h2 h3
          cases h1 with
          | cons p1 p2 =>
            cases h2 with
            | cons r1 r2 =>
              cases ns with
              | nil => cases h3
              | cons i ns =>
                have h3' := List.cons.inj h3
                have e0 : kv.1 = Sum.inl i := p1.1.symm.trans h3'.1
                have g1' : keyIs kv.1 e.key = true := g1
                rw [e0] at g1'
                obtain ⟨j, t, e1, e2⟩ | ⟨x, t, e1, e2⟩ := keyIs_shape g1'
                · cases e1
                  show IntsAre (e.key :: es.map (·.key)) _
                  rw [e2]
                  exact .cons _ _ (ih p2 r2 h3'.2)
                · cases e1
      exact key hpa va' rk hk
    refine sorted_dictR (s := s) (I.ok.hd hcalm) ya ⟨oa, hoa, hcl, hda⟩ hi hn fun h1 h2 tk out c ns' k1 k2 hc io hp => ?_
    have I1 : Inv X pins σ H { s with heap := h1 } := I.kept (t' := s.toks) k1
    have hlo : (ns'.map V.int).length ≤ sizeLine := by
      rw [List.length_map, hp.length_eq]
      have : ns.length = kvs.length := by
        have := congrArg List.length hk
        rw [List.length_map, List.length_map] at this
        exact this.symm
      rw [this, ← rk.length]; exact z
    have e0 : out.toList.toArray = out := Array.toArray_toList
    exact ⟨.ref _, upd H h1.objs.size (.lst (ns'.map V.int)), I1.laid (t' := tk) k2 (Nat.le_refl _) ⟨hlo, out.toList, c, L2.vals_of_ints io, by rw [e0]; exact hc⟩, rfl, q ns' _ hp (I1.hok.fresh (Nat.le_refl _))⟩
section
variable {c : Ctx} {ρ : List SD} {n : Nat} {ta tk : TA} {Φ : Nat → D → Prop}
/-- a built-in called with keywords -/
theorem we_ckw {r : List V → List V → Hp → VK → Prop} (h : WA c ta ρ n fun n1 ds => WA c tk ρ n1 fun n2 es => ∀ (O : List Addr) (H : Hp) (vs zs : List V) (Q : VK), RpAll c.K (hid O H) vs ds → RpAll c.K (hid O H) zs es → (∀ p, H p = none → p ∉ O) → (∀ v f H', Same H H' → Rp c.K (hid O H') v f → Φ n2 f → Q v H') → r vs zs H Q) : WE c (tCKw r ta tk) ρ n Φ := fun P L σ H Q E q => by
  refine h P L σ H _ E fun vs ds n1 H1 s1 j1 r1 h1 => ?_
  have E1 := E.step s1 j1
  refine h1 P L σ H1 _ E1 fun zs es n2 H2 s2 j2 r2 h2 => ?_
  have E2 := E1.step s2 j2
  refine h2 (L ++ c.O) H2 vs zs Q (r1.mono (E1.sameLO s2)) r2 E2.noO fun v f H' s r k => ?_
  have z := E2.same s
  exact q v f n2 H' ((s1.trans s2).trans z.1) z.2 r k
theorem we_sortKR (h : WA c ta ρ n fun n1 ds => ∃ (kvs : List (L2.Key × D)) (ns : List Int), ds = [.dct kvs] ∧ kvs.map (·.1) = ns.map Sum.inl ∧ WA c tk ρ n1 fun n2 es => es = [.bl true] ∧ ∀ ns' : List Int, ns'.Perm ns → Φ n2 (.lst (ns'.map .int))) : WE c (tCKw (rSortKR c.K) ta tk) ρ n Φ := we_ckw fun P L σ H Q E q => h P L σ H Q E fun vs ds n1 H1 s1 j1 r1 ⟨kvs, ns, e, hk, h2⟩ => by
  subst e
  refine q vs _ n1 H1 s1 j1 r1 fun P L σ H Q E q => h2 P L σ H Q E fun zs es n2 H2 s2 j2 r2 ⟨e, kk⟩ => ?_
  subst e
  refine q zs _ n2 H2 s2 j2 r2 fun O H xs ys Q rx ry no qq => ?_
  obtain ⟨v, rfl, rv⟩ := rx.one
  obtain ⟨u, rfl, ru⟩ := ry.one
  cases ru
  exact ⟨O, v, kvs, ns, rfl, rfl, rv, hk, fun ns' p hp hpn => qq _ _ _ (same_upd_new hpn) (.lst (.inl (hid_at (no p hpn))) (RpAll.ofInts ns')) (kk ns' hp)⟩
end
end L3
/-! L3v: an own list looked at; what comes out has no lists. -/
namespace L3
open PySem L2
mutual
def noLst : D → Bool
  | .lst _ => false
  | .tup xs => noLstAll xs
  | .obj _ fs => noLstFs fs
  | .dct _ => false
  | .dcn _ _ _ => false
  | .adr _ => false
  | .ty _ => false
  | .er _ _ => false
  | _ => true
def noLstAll : List D → Bool
  | [] => true
  | x :: xs => noLst x && noLstAll xs
def noLstFs : List (Str × D) → Bool
  | [] => true
  | x :: xs => noLst x.2 && noLstFs xs
end
def NoTup (H : Hp) (l : Addr) : Prop := (∀ xs, ¬ Rd H l (.tup xs)) ∧ ∀ C dx fs, H l ≠ some (.ins C dx fs)
theorem noTup_lst {H : Hp} {l : Addr} {ys : List V} (h : H l = some (.lst ys)) : NoTup H l := ⟨fun xs => by
  rintro (q | ⟨o, q⟩) <;> (rw [h] at q; cases q), fun C dx fs q => by rw [h] at q; cases q⟩
mutual
theorem rt_drop {K : PySem.W.Frag} {O : List Addr} {H : Hp} {l : Addr} (hl : NoTup H l) : ∀ (d : D) (v : V), Rp K (hid O H) v d → noLst d = true → Rp K (hid (l :: O) H) v d
  | .non, _, h, _ => by cases h; exact .non
  | .bl b, _, h, _ => by cases h; exact .bl b
  | .int i, _, h, _ => by cases h; exact .int i
  | .str x, _, h, _ => by cases h; exact .str x
  | .lst xs, _, h, p => by cases p
  | .tup xs, _, h, p => by
    cases h with
    | tup h r =>
      refine .tup ?_ (rt_drops hl xs _ r p)
      rcases h with h | h
      · exact .inl (rd_drop (hl.1 _) h)
      · exact .inr h
  | .obj _ fs, _, h, p => by
    cases h with
    | @obj _ _ dx _ _ h r =>
      refine .obj (dx := dx) ?_ (rt_dropF hl fs _ r p)
      obtain ⟨h1, h2⟩ := hid_some.mp h
      exact hid_some.mpr ⟨fun z => (List.mem_cons.mp z).elim (fun z => hl.2 _ _ _ (by rw [← z]; exact h2)) h1, h2⟩
  | .adr _, _, _, p => by cases p
  | .ty _, _, _, p => by cases p
  | .er _ _, _, _, p => by cases p
  | .dct _, _, _, p => by cases p
  | .dcn _ _ _, _, _, p => by cases p
theorem rt_drops {K : PySem.W.Frag} {O : List Addr} {H : Hp} {l : Addr} (hl : NoTup H l) : ∀ (ds : List D) (vs : List V), RpAll K (hid O H) vs ds → noLstAll ds = true → RpAll K (hid (l :: O) H) vs ds
  | [], _, h, _ => by cases h; exact .nil
  | x :: xs, _, h, p => by
    cases h with
    | cons h r =>
      have p' : (noLst x && noLstAll xs) = true := p
      rw [Bool.and_eq_true] at p'
      exact .cons (rt_drop hl x _ h p'.1) (rt_drops hl xs _ r p'.2)
theorem rt_dropF {K : PySem.W.Frag} {O : List Addr} {H : Hp} {l : Addr} (hl : NoTup H l) : ∀ (ds : List (Str × D)) (vs : List (Str × V)), RpFs K (hid O H) vs ds → noLstFs ds = true → RpFs K (hid (l :: O) H) vs ds
  | [], _, h, _ => by cases h; exact .nil
  | x :: xs, _, h, p => by
    cases h with
    | cons h r =>
      have p' : (noLst _ && noLstFs xs) = true := p
      rw [Bool.and_eq_true] at p'
      exact .cons (rt_drop hl _ _ h p'.1) (rt_dropF hl xs _ r p'.2)
end
section
variable {c : Ctx} {ρ : List SD} {n : Nat} {te : TE} {Φ : Nat → D → Prop}
theorem Env.freeze2 {P : Hp} {L : List Addr} {n : Nat} {H : Hp} {σ : List (Option V)} {i : Nat} {ds : List D} (E : Env c P L n H σ ρ) (h : ρ[i]? = some (.own ds)) : ∃ L', Env c P L' n H σ (ρ.set i (.val (.lst ds))) ∧ L'.Sublist L ∧ ∃ l xs, (∀ a ∈ L, a = l ∨ a ∈ L') ∧ l ∈ L ∧ H l = some (.lst xs) := by
  obtain ⟨Ls, sl, sb⟩ := E.slots
  obtain ⟨L1, l, L2, xs, h1, h2, h3, h4⟩ := sl.freeze h
  have lL : l ∈ L := sb.subset (by rw [h1]; simp)
  have sub : (L.erase l).Sublist L := List.erase_sublist
  have nl : l ∉ L.erase l := E.nd.not_mem_erase
  have sb2 : (L1 ++ L2).Sublist (L.erase l) := by
    have nd := sb.nodup E.nd
    rw [h1] at nd
    have n1 : l ∉ L1 := fun q => by
      have := (List.nodup_append.mp nd).2.2 l q l List.mem_cons_self
      exact this rfl
    have q : (Ls.erase l).Sublist (L.erase l) := sb.erase l
    rw [h1, List.erase_append_right _ n1, List.erase_cons_head] at q
    exact q
  have nO : l ∉ (L.erase l) ++ c.O := fun q => by
    rcases List.mem_append.mp q with q | q
    · exact nl q
    · exact (E.fresh l lL).2 q
  have se : Same (hid (L ++ c.O) H) (hid ((L.erase l) ++ c.O) H) := same_hid_sub fun a ha => by
    rcases List.mem_append.mp ha with q | q
    · exact List.mem_append_left _ (sub.subset q)
    · exact List.mem_append_right _ q
  exact ⟨L.erase l, { nd := sub.nodup E.nd, fresh := fun l hl => E.fresh l (sub.subset hl), slots := ⟨_, h4 _ se nO, sb2⟩, lst := fun l hl => E.lst l (sub.subset hl), base := E.base, pers := E.pers.trans se, bO := E.bO, al := E.al, bag := E.bag }, sub, l, xs, fun a ha => by by_cases q : a = l; exact .inl q; exact .inr ((List.mem_erase_of_ne q).mpr ha), lL, h2⟩
theorem we_lookT (i : Nat) {ds : List D} (h : ρ[i]? = some (.own ds)) (k : WE c te (ρ.set i (.val (.lst ds))) n fun n1 d => noLst d = true ∧ Φ n1 d) : WE c te ρ n Φ := fun P L σ H Q E q => by
  obtain ⟨L', E', sub, l, xs, hL, lL, hx⟩ := E.freeze2 h
  refine k P L' σ H Q E' fun v d n1 H1 s1 j1 r1 ⟨hs, k1⟩ => q v d n1 H1 s1 j1 ?_ k1
  have hB : l ∉ c.B := E.notB lL
  have h1 : H1 l = some (.lst xs) := (hid_some.mp (s1 l _ (hid_some.mpr ⟨hB, hx⟩))).2
  exact (rt_drop (noTup_lst h1) d v r1 hs).mono (same_hid_sub fun a ha => by
    rcases List.mem_append.mp ha with q | q
    · rcases hL a q with e | e
      · rw [e]; exact List.mem_cons_self
      · exact List.mem_cons_of_mem _ (List.mem_append_left _ e)
    · exact List.mem_cons_of_mem _ (List.mem_append_right _ q))
end
end L3
/-! L3w: for k in d; list(d), len(d), isinstance(d, dict), d == e. -/
namespace L3
open PySem L2
def tLockOr (t : TS) : TS := fun D σ H => tLock t D σ H ∨ t D σ H
theorem ps_lockOr {X : Cx} {st : Stmt} {t : TS} (h : PS X st t) : PS X st (tLockOr t) := by
  refine ⟨fun pins s σ H D I hw => ?_⟩
  rcases hw with hw | hw
  · exact (ps_lock h).run pins s σ H D I hw
  · exact h.run pins s σ H D I hw
/-! ### a dict, locked or not -/
def DkC (xs : List (L2.Key × V)) (o : Option HO) : Prop := o = some (.dK xs) ∨ ∃ od, o = some (.frz od (.dK xs))
/-- two heaps that agree but for the lock of one dict -/
structure Ag (d : Addr) (xs : List (L2.Key × V)) (H H' : Hp) : Prop where
  off : ∀ a, a ≠ d → H' a = H a
  a1 : DkC xs (H d)
  a2 : DkC xs (H' d)
section
variable {d : Addr} {xs : List (L2.Key × V)} {H H' : Hp}
theorem Ag.symm (A : Ag d xs H H') : Ag d xs H' H := ⟨fun a h => (A.off a h).symm, A.a2, A.a1⟩
theorem Ag.hid {O : List Addr} (A : Ag d xs H H') (h : d ∉ O) : Ag d xs (hid O H) (hid O H') := ⟨fun a ha => by
  unfold L3.hid
  by_cases q : a ∈ O
  · rw [if_pos q, if_pos q]
  · rw [if_neg q, if_neg q]; exact A.off a ha, by rw [hid_out h]; exact A.a1, by rw [hid_out h]; exact A.a2⟩
theorem Ag.lst (A : Ag d xs H H') {a : Addr} {ys : List V} (h : Rd H a (.lst ys)) : Rd H' a (.lst ys) := by
  have ne : a ≠ d := fun e => by
    subst e
    rcases h with h | ⟨o, h⟩ <;> rcases A.a1 with q | ⟨od, q⟩ <;> (rw [h] at q; cases q)
  unfold Rd
  rw [A.off a ne]; exact h
theorem Ag.tup (A : Ag d xs H H') {a : Addr} {ys : List V} (h : Rd H a (.tup ys)) : Rd H' a (.tup ys) := by
  have ne : a ≠ d := fun e => by
    subst e
    rcases h with h | ⟨o, h⟩ <;> rcases A.a1 with q | ⟨od, q⟩ <;> (rw [h] at q; cases q)
  unfold Rd
  rw [A.off a ne]; exact h
theorem Ag.sqt (A : Ag d xs H H') {K : PySem.W.Frag} {a : Addr} {ys : List V} (h : SqT K H a ys) : SqT K H' a ys := by
  rcases h with h | h
  · exact .inl (A.tup h)
  · exact .inr h
theorem Ag.dK (A : Ag d xs H H') {a : Addr} {ys : List (L2.Key × V)} (h : Rd H a (.dK ys)) : Rd H' a (.dK ys) := by
  by_cases e : a = d
  · subst e
    have ey : ys = xs := by rcases h with h | ⟨o, h⟩ <;> rcases A.a1 with q | ⟨od, q⟩ <;> (rw [h] at q; cases q; try rfl)
    subst ey
    rcases A.a2 with q | ⟨od, q⟩
    · exact .inl q
    · exact .inr ⟨od, q⟩
  · unfold Rd
    rw [A.off a e]; exact h
theorem Ag.ne {a : Addr} {o : HO} (A : Ag d xs H H') (h : H a = some o) (n1 : ∀ ys, o ≠ .dK ys) (n2 : ∀ od u, o ≠ .frz od u) : a ≠ d := fun e => by
  subst e
  rcases A.a1 with q | ⟨od, q⟩
  · rw [h] at q; exact n1 _ (Option.some.inj q)
  · rw [h] at q; exact n2 _ _ (Option.some.inj q)
theorem Ag.ins (A : Ag d xs H H') {a C dx : Addr} {fs : List (Str × V)} (h : H a = some (.ins C dx fs)) : H' a = some (.ins C dx fs) := by
  rw [A.off a (A.ne h (fun _ => nofun) fun _ _ => nofun)]; exact h
theorem Ag.rext (A : Ag d xs H H') {a : Addr} {φ : Heap → Prop} (h : Rd H a (.ext φ)) : Rd H' a (.ext φ) := by
  have ne : a ≠ d := fun e => by
    subst e
    rcases h with h | ⟨o, h⟩ <;> rcases A.a1 with q | ⟨od, q⟩ <;> (rw [h] at q; cases q)
  unfold Rd
  rw [A.off a ne]; exact h
theorem Ag.ext (A : Ag d xs H H') {a : Addr} {φ : Heap → Prop} (h : H a = some (.ext φ)) : H' a = some (.ext φ) := by
  rw [A.off a (A.ne h (fun _ => nofun) fun _ _ => nofun)]; exact h
mutual
theorem Rp.ag {K : PySem.W.Frag} {d : Addr} {xs : List (L2.Key × V)} {H H' : Hp} (A : Ag d xs H H') : ∀ {v : V} {x : D}, Rp K H v x → Rp K H' v x
  | _, _, .non => .non
  | _, _, .bl b => .bl b
  | _, _, .int i => .int i
  | _, _, .str x => .str x
  | _, _, .lst h r => .lst (A.lst h) (RpAll.ag A r)
  | _, _, .tup h r => .tup (A.sqt h) (RpAll.ag A r)
  | _, _, .obj h r => .obj (A.ins h) (RpFs.ag A r)
  | _, _, .adr a => .adr a
  | _, _, .ty n => .ty n
  | _, _, .er h1 h2 r => .er (A.rext h1) (A.rext h2) (RpFs.ag A r)
  | _, _, .dct h r => .dct (A.dK h) (RpKs.ag A r)
  | _, _, .dcn h s r => .dcn (A.rext h) s (RpNs.ag A r)
theorem RpAll.ag {K : PySem.W.Frag} {d : Addr} {xs : List (L2.Key × V)} {H H' : Hp} (A : Ag d xs H H') : ∀ {vs : List V} {ds : List D}, RpAll K H vs ds → RpAll K H' vs ds
  | _, _, .nil => .nil
  | _, _, .cons h r => .cons (Rp.ag A h) (RpAll.ag A r)
theorem RpFs.ag {K : PySem.W.Frag} {d : Addr} {xs : List (L2.Key × V)} {H H' : Hp} (A : Ag d xs H H') : ∀ {vs : List (Str × V)} {ds : List (Str × D)}, RpFs K H vs ds → RpFs K H' vs ds
  | _, _, .nil => .nil
  | _, _, .cons h r => .cons (Rp.ag A h) (RpFs.ag A r)
theorem RpKs.ag {K : PySem.W.Frag} {d : Addr} {xs : List (L2.Key × V)} {H H' : Hp} (A : Ag d xs H H') : ∀ {vs : List (L2.Key × V)} {ds : List (L2.Key × D)}, RpKs K H vs ds → RpKs K H' vs ds
  | _, _, .nil => .nil
  | _, _, .cons h r => .cons (Rp.ag A h) (RpKs.ag A r)
theorem RpNs.ag {K : PySem.W.Frag} {d : Addr} {xs : List (L2.Key × V)} {H H' : Hp} (A : Ag d xs H H') : ∀ {vs : List (NestedKey × Addr × Value)} {ds : List (D × D)}, RpNs K H vs ds → RpNs K H' vs ds
  | _, _, .nil => .nil
  | _, _, .cons a b h w v r => .cons a b (Rp.ag A h) w (Rp.ag A v) (RpNs.ag A r)
end
theorem NDict.ag {pr : Program} {wd : World} {K : PySem.W.Frag} {O : List Addr} {l : Addr} {kvs : List (D × D)} (A : Ag d xs H H') (hd : d ∉ O) (h : NDict pr wd K O H l kvs) : NDict pr wd K O H' l kvs := by
  obtain ⟨ys, h1, h2, h3⟩ := h
  exact ⟨ys, A.ext h1, h2, ((RpNs.of h3).ag (A.hid hd)).pair⟩
theorem Slots.ag {pr : Program} {wd : World} {K : PySem.W.Frag} {O : List Addr} (A : Ag d xs H H') (hd : d ∉ O) : ∀ {σ : List (Option V)} {ρ : List SD} {L : List Addr}, Slots pr wd K O H σ ρ L → d ∉ L → Slots pr wd K O H' σ ρ L
  | _, _, _, .nil, _ => .nil
  | _, _, _, .un s, n => .un (Slots.ag A hd s n)
  | _, _, _, .val h s, n => .val (h.ag (A.hid hd)) (Slots.ag A hd s n)
  | _, _, _, .own (l := l) h r s, n => .own (by rw [A.off l fun e => n (e ▸ List.mem_cons_self)]; exact h) (r.ag (A.hid hd)) (Slots.ag A hd s fun q => n (List.mem_cons_of_mem _ q))
  | _, _, _, .dic h s, n => .dic (h.ag A hd) (Slots.ag A hd s fun q => n (List.mem_cons_of_mem _ q))
  | _, _, _, .dk (l := l) ⟨ys, h, r⟩ s, n => .dk ⟨ys, by rw [A.off l fun e => n (e ▸ List.mem_cons_self)]; exact h, r.ag (A.hid hd)⟩ (Slots.ag A hd s fun q => n (List.mem_cons_of_mem _ q))
  | _, _, _, .tw ⟨vs, h, r, q⟩ s, n => .tw ⟨vs, (A.hid hd).sqt h, r.ag (A.hid hd), q.ag A hd⟩ (Slots.ag A hd s fun q => n (List.mem_cons_of_mem _ q))
  | _, _, _, .ot h q s, n => .ot (OT.mv _ h (fun l hl => A.off l fun e => n (by rw [q, ← e]; exact List.mem_append_left _ hl)) fun _ _ r => r.ag (A.hid hd)) q (Slots.ag A hd s fun z => n (by rw [q]; exact List.mem_append_right _ z))
theorem BagOk.ag {b q : Addr} {n : Nat} (A : Ag d xs H H') (h : BagOk b q n H) : BagOk b q n H' := by
  obtain ⟨t, r, cs, h1, h2, h3⟩ := h
  exact ⟨t, r, cs, by rw [A.off b (A.ne h1 (fun _ => nofun) fun _ _ => nofun)]; exact h1, by rw [A.off q (A.ne h2 (fun _ => nofun) fun _ _ => nofun)]; exact h2, h3⟩
end
section
variable {c : Ctx} {ρ : List SD} {n : Nat} {Ψ : Out} {ts : TS} {g : TG}
/-- a loop over a walk that stands here -/
theorem for_go {P : Hp} {L : List Addr} {σ : List (Option V)} {H : Hp} {Dn : Ends} {J : It} {ds : List D} (E : Env c P L n H σ ρ) (A : Acc c P Ψ Dn) (it : ItOk c J ds (hid (L ++ c.O) H)) (h : ∃ I : Nat → Nat → List SD → Prop, I 0 n ρ ∧
    (∀ k m ρ1 d, ds[k]? = some d → I k m ρ1 → WG c (fun _ _ => True) g d ρ1 m fun ρ2 => WS c ts ρ2 m { nx := I (k + 1), ct := I (k + 1), bk := Ψ.nx, rt := Ψ.rt }) ∧ (∀ m ρ1, I ds.length m ρ1 → Ψ.nx m ρ1)) : tFor (fun _ H R => R J H) g ts Dn σ H := by
  obtain ⟨I, h0, hs, hd⟩ := h
  have E1 := E.pers'
  have pp : Same P (hid (L ++ c.O) H) := E.pers
  have A' : Acc c (hid (L ++ c.O) H) Ψ Dn := { nx := fun L n H σ ρ E k => A.nx L n H σ ρ (E.persOf pp) k, rt := A.rt, bk := fun L n H σ ρ E k => A.bk L n H σ ρ (E.persOf pp) k, ct := fun L n H σ ρ E k => A.ct L n H σ ρ (E.persOf pp) k }
  refine ⟨fun i m σ H1 => m + i = ds.length ∧ ∃ L' n' ρ', Env c (hid (L ++ c.O) H) L' n' H1 σ ρ' ∧ I i n' ρ', ⟨ds.length, rfl, L, n, ρ, E1, h0⟩, ?_⟩
  rintro i m σ' H' ⟨hm, L', n', ρ', E', hI⟩
  by_cases hi : i < ds.length
  · right
    have hg : ds[i]? = some ds[i] := List.getElem?_eq_getElem hi
    obtain ⟨go, yl⟩ := it.go L' n' H' σ' ρ' E' i _ hg
    refine ⟨go, fun σ2 H2 => ∃ L2 n2 ρ2, Env c (hid (L ++ c.O) H) L2 n2 H2 σ2 ρ2 ∧ I (i + 1) n2 ρ2, ?_, ?_⟩
    · rintro σ2 H2 ⟨L2, n2, ρ2, E2, hI2⟩
      exact ⟨m - 1, by omega, by omega, L2, n2, ρ2, E2, hI2⟩
    · intro x H2 hy
      obtain ⟨sm, rx⟩ := yl x H2 hy
      have z := E'.same sm
      refine hs i n' ρ' _ hg hI _ L' σ' H2 x _ (E'.step z.1 z.2) rx fun σ3 ρ3 E3 _ k3 => ?_
      exact k3 _ L' σ3 H2 _ E3 { nx := fun L n H σ ρ E k => ⟨L, n, ρ, E, k⟩, rt := A.rt, bk := fun L n H σ ρ E k => A'.nx L n H σ ρ E k, ct := fun L n H σ ρ E k => ⟨L, n, ρ, E, k⟩ }
  · left
    have e : i = ds.length := by omega
    subst e
    exact ⟨it.stop L' n' H' σ' ρ' E' _ (Nat.le_refl _), A'.nx L' n' H' σ' ρ' E' (hd n' ρ' hI)⟩
def kD : L2.Key → D
  | .inl i => .int i
  | .inr x => .str x
theorem kD_rp {K : PySem.W.Frag} {H : Hp} : ∀ k : L2.Key, Rp K H (kV k) (kD k)
  | .inl i => .int i
  | .inr x => .str x
def keysD (kvs : List (L2.Key × D)) : List D := kvs.map fun kv => kD kv.1
theorem RpKs.keys {K : PySem.W.Frag} {H : Hp} : ∀ {xs : List (L2.Key × V)} {kvs : List (L2.Key × D)}, RpKs K H xs kvs → xs.map (·.1) = kvs.map (·.1)
  | _, _, .nil => rfl
  | _, _, .cons _ r => by rw [List.map_cons, List.map_cons, r.keys]
theorem it_k {d : Addr} {od : Obj} {xs : List (L2.Key × V)} {kvs : List (L2.Key × D)} {P : Hp} (hd : P d = some (.frz od (.dK xs))) (hr : RpKs c.K P xs kvs) : ItOk c (Itk d od xs) (keysD kvs) P where
  go := fun L n H σ ρ E i y hy => by
    unfold keysD at hy
    rw [List.getElem?_map] at hy
    have hp : H d = some (.frz od (.dK xs)) := (hid_some.mp (E.pers d _ hd)).2
    have hkk := hr.keys
    cases hk : kvs[i]? with
    | none => rw [hk] at hy; cases hy
    | some kv =>
      rw [hk] at hy
      have hl : i < xs.length := by rw [hr.length]; exact (List.getElem?_eq_some_iff.mp hk).1
      refine ⟨⟨hp, hl⟩, fun x H' ⟨e1, k, v, e2, e3⟩ => ?_⟩
      subst e1; subst e3
      have e4 : (xs.map (·.1))[i]? = some k := by rw [List.getElem?_map, e2]; rfl
      rw [hkk, List.getElem?_map, hk] at e4
      rw [← Option.some.inj hy, ← Option.some.inj e4]
      exact ⟨Same.refl _, kD_rp _⟩
  stop := fun L n H σ ρ E i hi => by
    unfold keysD at hi
    rw [List.length_map, ← hr.length] at hi
    exact ⟨(hid_some.mp (E.pers d _ hd)).2, hi⟩
/-- for k in d -/
theorem ws_forK {i : Nat} {kvs : List (L2.Key × D)} (h0 : ρ[i]? = some (.val (.dct kvs))) (h : ∀ H0', ∃ I : Nat → Nat → List SD → Prop, I 0 n ρ ∧
    (∀ k m ρ1 d, (keysD kvs)[k]? = some d → I k m ρ1 → WG { c with H0 := H0' } (fun _ _ => True) g d ρ1 m fun ρ2 => WS { c with H0 := H0' } ts ρ2 m { nx := I (k + 1), ct := I (k + 1), bk := Ψ.nx, rt := Ψ.rt }) ∧ (∀ m ρ1, I (keysD kvs).length m ρ1 → Ψ.nx m ρ1)) :
    WS c (tLockOr (tFor (iKeys (tVar i)) g ts)) ρ n Ψ := fun P L σ H Dn E A => by
  obtain ⟨Ls, sl, sb⟩ := E.slots
  obtain ⟨v, hv, rv⟩ := sl.get h0
  cases rv with
  | @dct d xs _ hd rk =>
    rcases hd with hd | ⟨od, hd⟩
    · -- not locked yet
      left
      have hdO : d ∉ L ++ c.O := (hid_some.mp hd).1
      have hdL : d ∉ L := fun q => hdO (List.mem_append_left _ q)
      have hdc : d ∉ c.O := fun q => hdO (List.mem_append_right _ q)
      have hH := (hid_some.mp hd).2
      refine ⟨d, .dK xs, hH, True.intro, fun od => ?_⟩
      have AG : Ag d xs H (upd H d (.frz od (.dK xs))) := ⟨fun a ha => upd_ne ha, .inl hH, .inr ⟨od, upd_same⟩⟩
      generalize hH1 : upd H d (.frz od (.dK xs)) = H1 at AG
      have hd1 : H1 d = some (.frz od (.dK xs)) := by rw [← hH1]; exact upd_same
      -- the context of the loop
      have E' : Env { c with H0 := hid L H1 } (hid (L ++ c.O) H1) L n H1 σ ρ :=
        { nd := E.nd, fresh := fun l hl => ⟨hid_in hl, (E.fresh l hl).2⟩,
          slots := ⟨Ls, sl.ag AG hdO fun q => hdL (sb.subset q), sb⟩,
          lst := fun l hl => by
            rw [AG.off l fun e => hdL (e ▸ hl)]; exact E.lst l hl,
          bag := fun b q hb => (E.bag b q hb).ag AG,
          base := fun a o e => by
            obtain ⟨e1, e2⟩ := hid_some.mp e
            exact hid_some.mpr ⟨e1, (hid_some.mp e2).2⟩,
          pers := Same.refl _, bO := E.bO,
          al := fun o ho => by rw [AG.off o fun e => hdc (e ▸ ho)]; exact E.al o ho }
      -- back to the old context
      have back : ∀ {L2 n2 H2 σ2 ρ2}, Env { c with H0 := hid L H1 } (hid (L ++ c.O) H1) L2 n2 H2 σ2 ρ2 → H2 d = some (.frz od (.dK xs)) ∧ Env c P L2 n2 (upd H2 d (.dK xs)) σ2 ρ2 := fun {L2 n2 H2 σ2 ρ2} E2 => by
        have hd2 : H2 d = some (.frz od (.dK xs)) := (hid_some.mp (E2.pers d _ (hid_some.mpr ⟨hdO, hd1⟩))).2
        have hdL2 : d ∉ L2 := fun q => by
          have := (E2.fresh d q).1
          have z : hid L H1 d = none := this
          rw [hid_out hdL, hd1] at z; cases z
        have hdO2 : d ∉ L2 ++ c.O := fun q => by
          rcases List.mem_append.mp q with q | q
          · exact hdL2 q
          · exact hdc q
        have AG2 : Ag d xs H2 (upd H2 d (.dK xs)) := ⟨fun a ha => upd_ne ha, .inr ⟨od, hd2⟩, .inl upd_same⟩
        have old : ∀ a o, a ∉ L → a ∉ c.B → H a = some o → upd H2 d (.dK xs) a = some o := fun a o ha hb ho => by
          by_cases e : a = d
          · subst e; rw [upd_same, ← ho, hH]
          · rw [upd_ne e]
            have : hid L H1 a = some o := by rw [hid_out ha, AG.off a e]; exact ho
            exact (hid_some.mp (E2.base a o (hid_some.mpr ⟨hb, this⟩))).2
        refine ⟨hd2, ?_⟩
        obtain ⟨Ls2, sl2, sb2⟩ := E2.slots
        exact { nd := E2.nd, fresh := fun l hl => ⟨(by
                  have h1 : hid L H1 l = none := (E2.fresh l hl).1
                  cases hz : c.H0 l with
                  | none => rfl
                  | some o =>
                    have hlL : l ∉ L := fun q => by rw [(E.fresh l q).1] at hz; cases hz
                    have hlB : l ∉ c.B := fun q => (E2.fresh l hl).2 (E.inO q)
                    have := (hid_some.mp (E.base l o (hid_some.mpr ⟨hlB, hz⟩))).2
                    rw [hid_out hlL] at h1
                    by_cases e : l = d
                    · subst e; rw [hd1] at h1; cases h1
                    · rw [AG.off l e, this] at h1; cases h1), (E2.fresh l hl).2⟩,
                slots := ⟨Ls2, sl2.ag AG2 hdO2 fun q => hdL2 (sb2.subset q), sb2⟩,
                lst := fun l hl => by rw [AG2.off l fun e => hdL2 (e ▸ hl)]; exact E2.lst l hl,
                bag := fun b q hb => (E2.bag b q hb).ag AG2,
                base := fun a o e => by
                  obtain ⟨e1, e2⟩ := hid_some.mp e
                  have haL : a ∉ L := fun q => by rw [(E.fresh a q).1] at e2; cases e2
                  exact hid_some.mpr ⟨e1, old a o haL e1 (hid_some.mp (E.base a o e)).2⟩,
                pers := fun a o e => by
                  obtain ⟨e1, e2⟩ := hid_some.mp (E.pers a o e)
                  have haL : a ∉ L := fun q => e1 (List.mem_append_left _ q)
                  have haO : a ∉ c.O := fun q => e1 (List.mem_append_right _ q)
                  refine hid_some.mpr ⟨fun q => ?_, old a o haL (fun q => haO (E.inO q)) e2⟩
                  rcases List.mem_append.mp q with q | q
                  · have h1 : hid L H1 a = none := (E2.fresh a q).1
                    rw [hid_out haL] at h1
                    by_cases e : a = d
                    · subst e; rw [hd1] at h1; cases h1
                    · rw [AG.off a e, e2] at h1; cases h1
                  · exact haO q,
                bO := E.bO,
                al := fun o ho => by rw [AG2.off o fun e => hdc (e ▸ ho)]; exact E2.al o ho }
      have hdB : d ∉ c.B := fun q => hdc (E.inO q)
      refine ⟨.ref d, hv, d, od, rfl, .inl ⟨xs, hd1, ?_⟩⟩
      refine for_go (c := { c with H0 := hid L H1 }) (Ψ := Ψ) (ds := keysD kvs) E' ?_ (it_k (hid_some.mpr ⟨hdO, hd1⟩) (rk.ag (AG.hid hdO))) (h _)
      refine' { nx := fun L2 n2 H2 σ2 ρ2 E2 k => ?nx, rt := fun v y n2 H2 s2 j2 r2 k => ?rt, bk := fun L2 n2 H2 σ2 ρ2 E2 k => ?bk, ct := fun L2 n2 H2 σ2 ρ2 E2 k => ?ct }
      case nx =>
        obtain ⟨b1, b2⟩ := back E2
        exact ⟨b1, A.nx _ _ _ _ _ b2 k⟩
      case bk =>
        obtain ⟨b1, b2⟩ := back E2
        exact ⟨b1, A.bk _ _ _ _ _ b2 k⟩
      case ct =>
        obtain ⟨b1, b2⟩ := back E2
        exact ⟨b1, A.ct _ _ _ _ _ b2 k⟩
      case rt =>
        have hd2 : H2 d = some (.frz od (.dK xs)) := (hid_some.mp (s2 d _ (hid_some.mpr ⟨hdB, by show hid L H1 d = _; rw [hid_out hdL]; exact hd1⟩))).2
        have AG2 : Ag d xs H2 (upd H2 d (.dK xs)) := ⟨fun a ha => upd_ne ha, .inr ⟨od, hd2⟩, .inl upd_same⟩
        refine ⟨hd2, A.rt v y n2 _ (fun a o e => ?_) (fun b q hb => (j2 b q hb).ag AG2) (r2.ag (AG2.hid hdc)) k⟩
        obtain ⟨e1, e2⟩ := hid_some.mp e
        have haL : a ∉ L := fun q => by rw [(E.fresh a q).1] at e2; cases e2
        have ho := (hid_some.mp (E.base a o e)).2
        refine hid_some.mpr ⟨e1, ?_⟩
        by_cases q : a = d
        · subst q; rw [upd_same, ← ho, hH]
        · rw [upd_ne q]
          have : hid L H1 a = some o := by rw [hid_out haL, AG.off a q]; exact ho
          exact (hid_some.mp (s2 a o (hid_some.mpr ⟨e1, this⟩))).2
    · right
      refine ⟨.ref d, hv, d, od, rfl, .inl ⟨xs, (hid_some.mp hd).2, ?_⟩⟩
      exact for_go (c := c) (Ψ := Ψ) (ds := keysD kvs) E.pers' { nx := fun L n H σ ρ E2 k => A.nx L n H σ ρ (E2.persOf E.pers) k, rt := A.rt, bk := fun L n H σ ρ E2 k => A.bk L n H σ ρ (E2.persOf E.pers) k, ct := fun L n H σ ρ E2 k => A.ct L n H σ ρ (E2.persOf E.pers) k } (it_k hd rk) (h c.H0)
end
/-! ### list(d), len(d), isinstance(d, dict), == -/
def rListK (K : PySem.W.Frag) : List V → Hp → VK → Prop := fun vs H Q => ∃ (O : List Addr) (v : V) (kvs : List (L2.Key × D)), vs = [v] ∧ Rp K (hid O H) v (.dct kvs) ∧ ∀ p ys, H p = none → RpAll K (hid O H) ys (keysD kvs) → Q (.ref p) (upd H p (.lst ys))
theorem keysD_rp {K : PySem.W.Frag} {H H' : Hp} : ∀ {xs : List (L2.Key × V)} {kvs : List (L2.Key × D)}, RpKs K H xs kvs → RpAll K H' (xs.map fun kv => kV kv.1) (keysD kvs)
  | _, _, .nil => .nil
  | _, _, .cons _ r => .cons (kD_rp _) (keysD_rp r)
theorem x_listK {X : Cx} (K : PySem.W.Frag) (hc : X.calm = true := by rfl) (hK : X.K = K := by rfl) : CallR X (.type "list") (rListK K) := by
  subst hK
  intro pins s σ H xs us Q I r h
  obtain ⟨O, v, kvs0, e, hx, q⟩ := h
  subst e
  cases hx with
  | @dct p kvs _ hs rk0 =>
    obtain ⟨u, eu, rx⟩ := L2.vals1 r
    subst eu
    obtain rfl : u = Value.ref p := rx
    obtain ⟨z, lo, vs, rk, hd⟩ := (same_rd same_hid hs).ok I.hok
    obtain ⟨ep, hat⟩ := hd.dictAt
    have hl : kvs.length = vs.length := Paired.length rk
    refine PySem.W.kdl_call (PySem.W.kdl_dict (knd := mixKind X.prog X.w) (kvs := vs) (ep := ep) lo) (I.ok.hd hc) hat (by rw [← hl]; exact z) fun h' tk acc' c' hkeep hS hacc => ?_
    refine ⟨.ref s.heap.objs.size, upd H s.heap.objs.size (.lst (kvs.map fun kv => kV kv.1)), I.laid hkeep (Nat.le_refl _) (show ObjOk X.prog X.w _ _ _ (.lst (kvs.map fun kv => kV kv.1)) from ⟨?_, acc'.toList, c', ?_, ?_⟩), rfl, q _ _ (I.hok.fresh (Nat.le_refl _)) (keysD_rp rk0)⟩
    · rw [List.length_map]; exact z
    · have el : acc'.toList.length = acc'.size := by simp
      refine L2.vals_of_at (by rw [List.length_map, el, hacc.1, hl]) fun j x w h1 h2 => ?_
      obtain ⟨k, y, hky, hi⟩ := hacc.2 j w (by rw [← Array.getElem?_toList]; exact h2)
      have e1 : (kvs.map (·.1))[j]? = some k := by
        rw [KV.keys rk, List.getElem?_map, hky] <;> rfl
      have e2 : (kvs.map fun kv => kV kv.1)[j]? = some (kV k) := by
        have e3 : (kvs.map fun kv => kV kv.1) = (kvs.map (·.1)).map kV := by rw [List.map_map] <;> rfl
        rw [e3, List.getElem?_map, e1] <;> rfl
      rw [e2] at h1
      cases h1
      exact keyIs_rel hi
    · rw [Array.toArray_toList]; exact hS
theorem rc_listK {K : PySem.W.Frag} {Φ : D → Prop} {kvs : List (L2.Key × D)} (k : Φ (.lst (keysD kvs))) : RCD K (rListK K) [.dct kvs] Φ := fun O H xs Q rs no q => by
  obtain ⟨v, rfl, r⟩ := rs.one
  exact ⟨O, v, kvs, rfl, r, fun p ys hp ry => q _ _ _ (same_upd_new hp) (.lst (.inl (hid_at (no p hp))) (ry.mono (rp_upd (K := K) hp))) k⟩
def rLenK (K : PySem.W.Frag) : List V → Hp → VK → Prop := fun vs H Q => ∃ (O : List Addr) (v : V) (kvs : List (L2.Key × D)), vs = [v] ∧ Rp K (hid O H) v (.dct kvs) ∧ Q (.int kvs.length) H
theorem x_lenK {X : Cx} (K : PySem.W.Frag) (hK : X.K = K := by rfl) : CallR X (.builtin "len") (rLenK K) := by
  subst hK
  intro pins s σ H xs us Q I r h
  obtain ⟨O, v, kvs, e, hx, q⟩ := h
  subst e
  cases hx with
  | @dct p ys _ hs rk =>
    obtain ⟨u, eu, rx⟩ := L2.vals1 r
    subst eu
    obtain rfl : u = Value.ref p := rx
    refine d_len I (same_rd same_hid hs) fun t s' I' => ⟨.int kvs.length, H, I', ⟨t, by rw [rk.length]⟩, q⟩
theorem rc_lenK {K : PySem.W.Frag} {Φ : D → Prop} {kvs : List (L2.Key × D)} (k : Φ (.int kvs.length)) : RCD K (rLenK K) [.dct kvs] Φ := fun O H xs Q rs no q => by
  obtain ⟨v, rfl, r⟩ := rs.one
  exact ⟨O, v, kvs, rfl, r, q _ _ H (Same.refl _) (.int _) k⟩
theorem rc_isiK {K : PySem.W.Frag} {Φ : D → Prop} {kvs : List (L2.Key × D)} {U : String} {b : Bool} (hk : kitB "dict" U = some b) (k : Φ (.bl b)) : RCD K (rIsi K) [.dct kvs, .ty U] Φ := fun O H xs Q rs no q => by
  obtain ⟨v, u, rfl, r1, r2⟩ := rs.two
  cases r2
  cases r1 with
  | @dct p ys _ hs rk =>
    have ty : TyX K H (.ref p) (.type "dict") := by
      rcases same_rd same_hid hs with e | ⟨o, e⟩
      · exact .base (.dK e)
      · exact .fDict e
    exact ⟨_, .ty U, .type "dict", .type U, b, rfl, .ty U, ty, kit_ty hk, q _ _ H (Same.refl _) (.bl _) k⟩
theorem x_eqK {X : Cx} (K : PySem.W.Frag) (hu : X.A.units + 65 < cLine) (hK : X.K = K := by rfl) : OpR X (compareOp .Eq) (rEqK K false) := by
  subst hK
  intro pins s σ H x y v u Q I rx ry h
  obtain ⟨O, kvs, lvs, hx, hy, hl, hh, q⟩ := h
  cases hx with
  | @dct a ks _ ha ra =>
    cases hy with
    | @dct b ls _ hb rb =>
      cases rx
      cases ry
      obtain ⟨_, ya, va, va', da⟩ := (same_rd same_hid ha).ok I.hok
      obtain ⟨_, yb, vb, vb', db⟩ := (same_rd same_hid hb).ok I.hok
      refine PySem.W.keq_eq (knd := mixKind X.prog X.w) (r := true) ya yb da db (by omega) (fun _ => hitsD (A := X.A) I (by show X.A.units + 1 + 64 < cLine; omega) rb vb' ra va' hh) ?_
      have e : va.length = vb.length := by rw [← va'.length, ← vb'.length, ra.length, rb.length]; exact hl
      rw [show (va.length == vb.length && true) = true from by rw [e]; simp]
      exact ⟨.bl true, H, I, rfl, q⟩
end L3
/-! L3x: comprehensions over a dict whose keys are nested tuples. -/
namespace L3
open PySem L2
/-- the keys of the locked dict at d -/
def ItN (pr : Program) (wd : World) (d : Addr) (o : Obj) (xs : List (NestedKey × Addr × Value)) : It :=
  ⟨fun i H => H d = some (.frz o (.ext (DictBare pr wd xs d))) ∧ i < xs.length, fun i H x H' => H' = H ∧ ∃ y, xs[i]? = some y ∧ x = .ref y.2.1, fun i H => H d = some (.frz o (.ext (DictBare pr wd xs d))) ∧ xs.length ≤ i⟩
theorem frzN {X : Cx} {pins : List (Addr × Obj)} {σ : L2.St} {H : Hp} {s : Shared} {pr : Program} {wd : World} {d : Addr} {o : Obj} {xs : List (NestedKey × Addr × Value)} (I : Inv X pins σ H s) (h : H d = some (.frz o (.ext (DictBare pr wd xs d)))) :
    s.heap.get? d = some o ∧ o.ExactDict ∧ ∃ (es : Array DictEntry) (ep : Nat), o.data = .dict es ep ∧ es.size = xs.length ∧ ∀ (i : Nat) y, xs[i]? = some y → ∃ en, es[i]? = some en ∧ en.key = .ref y.2.1 := by
  obtain ⟨hd, ⟨o', es, ep, e1, e2, e3, e4, e5⟩, _⟩ := I.hok d _ h
  rw [hd] at e1
  cases e1
  refine ⟨hd, e2, es, ep, e3, by rw [← Array.length_toList, e4, List.length_map], fun i y hy => ?_⟩
  refine ⟨entryOfKey (nestedKind pr wd) y, ?_, rfl⟩
  rw [← Array.getElem?_toList, e4, List.getElem?_map, hy]
  rfl
theorem turn_keysN {P : Program} {w : World} {K : PySem.W.Frag} {tg : Expr} {d : Addr} {o : Obj} {es : Array DictEntry} {ep : Nat} {pr : Program} {wd : World} {xs : List (NestedKey × Addr × Value)} (it : Addr) (hod : o.data = .dict es ep) : Turn P w K tg (ItN pr wd d o xs) [it] it (fun i h => h.IsKeyIter it d i xs.length ep) where
  mem := by simp
  obj := fun i h st b hb => by
    have e : b = it := by simpa using hb
    subst e
    obtain ⟨oi, e, c, dd⟩ := st
    exact ⟨oi, e, fun v z => by rw [dd] at z; cases z⟩
  keep := fun i h h' st k => st.at fun oi e => k it (by simp) oi e
  item := by
    intro X hP hw hK hc i pins s σ H E I hf st hg
    subst hP hw hK
    obtain ⟨hd, hi⟩ := hg
    obtain ⟨f0, f1, f2, f3, f4, f5⟩ := hf it (by simp)
    obtain ⟨hgd, hx, es', ep', hdt, hsz, ent⟩ := frzN I hd
    obtain ⟨rfl, rfl⟩ := dict_ep hod hdt
    obtain ⟨y, hy⟩ : ∃ p, xs[i]? = some p := ⟨xs[i], List.getElem?_eq_getElem hi⟩
    obtain ⟨en, hen, hkey⟩ := ent i y hy
    refine next_key_item st hgd hdt hsz hen fun h' st' sb => ?_
    have I1 : Inv X pins σ H { s with heap := h' } := I.turned (t' := s.toks) (fun b ob hb e => (sb.2 b hb).trans e) f0 f1 f3 f4 f5
    obtain ⟨oi, e, c, dd⟩ := id st'
    exact ⟨en.key, rfl, go_of (s := { s with heap := h' }) e c dd (by decide) ⟨.ref y.2.1, H, I1, hkey, ⟨rfl, y, hy, rfl⟩, st', fun b hb => (hf b hb).1⟩⟩
  done := by
    intro X hP hw hK hc i pins s σ H E I hf st hg
    subst hP hw hK
    obtain ⟨hd, hi⟩ := hg
    obtain ⟨f0, f1, f2, f3, f4, f5⟩ := hf it (by simp)
    obtain ⟨hgd, hx, es', ep', hdt, hsz, ent⟩ := frzN I hd
    obtain ⟨rfl, rfl⟩ := dict_ep hod hdt
    exact next_key_end (I.ok.hd hc) st hgd hdt hsz hi fun h' eb => ⟨rfl, I.turned (t' := s.toks) (fun b ob hb e => eb b ob hb e) f0 f1 f3 f4 f5⟩
  self := fun A i s Q E st h => by
    refine wpAny_pyIter_slot st.typeIs F.slot_dict_keyiterator_iter (wpAny_call_entry F.slot_dict_keyiterator_iter st.typeIs F.entry_dict_keyiterator_iter ?_ (F.args_dict_keyiterator_iter_1 _))
    show wpAny _ _ (ret (.ref it)) _ _ s
    exact wpAny_pure ⟨_, rfl, "dict_keyiterator", _, st.typeIs, F.slot_dict_keyiterator_next.lookup, h⟩
def iKeysN (pr : Program) (wd : World) (td : TE) : TI := fun σ H R => td σ H fun x H1 => ∃ d o xs, x = .ref d ∧ (d == sysModules) = false ∧ H1 d = some (.frz o (.ext (DictBare pr wd xs d))) ∧ R (ItN pr wd d o xs) H1
theorem pi_keysN {X : Cx} {tg e : Expr} {td : TE} (pr : Program) (wd : World) (he : PE X e td) : PI X tg e (iKeysN pr wd td) := by
  refine ⟨fun pins s σ H R I h => ?_⟩
  refine thn (he.run pins s σ H _ I h) fun u s1 ⟨x, H1, I1, rx, d, o, xs, ex, hs, hd, q⟩ => ?_
  subst ex
  obtain rfl : u = Value.ref d := rx
  obtain ⟨hgd, hx, es, ep, hdt, hsz, ent⟩ := frzN I1 hd
  refine iter_keys hs hgd hx hdt (pi_one (tk := s1.toks) I1 _ (turn_keysN _ hdt) ⟨_, Heap.get?_push_size _ rfl, rfl, ?_⟩ q)
  rw [hsz] <;> rfl
def tLockEOr (t : TE) : TE := fun σ H Q => tLockE t σ H Q ∨ t σ H Q
theorem pe_lockOr {X : Cx} {e : Expr} {t : TE} (h : PE X e t) : PE X e (tLockEOr t) := by
  refine ⟨fun pins s σ H Q I hw => ?_⟩
  rcases hw with hw | hw
  · exact (pe_lock h).run pins s σ H Q I hw
  · exact h.run pins s σ H Q I hw
/-! ### two heaps that agree but for the lock of one such dict -/
def NC (φ : Heap → Prop) (o : Option HO) : Prop := o = some (.ext φ) ∨ ∃ od, o = some (.frz od (.ext φ))
structure AgN (d : Addr) (φ : Heap → Prop) (H H' : Hp) : Prop where
  off : ∀ a, a ≠ d → H' a = H a
  a1 : NC φ (H d)
  a2 : NC φ (H' d)
section
variable {d : Addr} {φ : Heap → Prop} {H H' : Hp}
theorem AgN.symm (A : AgN d φ H H') : AgN d φ H' H := ⟨fun a h => (A.off a h).symm, A.a2, A.a1⟩
theorem AgN.hid {O : List Addr} (A : AgN d φ H H') (h : d ∉ O) : AgN d φ (hid O H) (hid O H') := ⟨fun a ha => by
  unfold L3.hid
  by_cases q : a ∈ O
  · rw [if_pos q, if_pos q]
  · rw [if_neg q, if_neg q]; exact A.off a ha, by rw [hid_out h]; exact A.a1, by rw [hid_out h]; exact A.a2⟩
theorem AgN.lst (A : AgN d φ H H') {a : Addr} {ys : List V} (h : Rd H a (.lst ys)) : Rd H' a (.lst ys) := by
  have ne : a ≠ d := fun e => by
    subst e
    rcases h with h | ⟨o, h⟩ <;> rcases A.a1 with q | ⟨od, q⟩ <;> (rw [h] at q; cases q)
  unfold Rd
  rw [A.off a ne]; exact h
theorem AgN.tup (A : AgN d φ H H') {a : Addr} {ys : List V} (h : Rd H a (.tup ys)) : Rd H' a (.tup ys) := by
  have ne : a ≠ d := fun e => by
    subst e
    rcases h with h | ⟨o, h⟩ <;> rcases A.a1 with q | ⟨od, q⟩ <;> (rw [h] at q; cases q)
  unfold Rd
  rw [A.off a ne]; exact h
theorem AgN.sqt (A : AgN d φ H H') {K : PySem.W.Frag} {a : Addr} {ys : List V} (h : SqT K H a ys) : SqT K H' a ys := by
  rcases h with h | h
  · exact .inl (A.tup h)
  · exact .inr h
theorem AgN.dK (A : AgN d φ H H') {a : Addr} {ys : List (L2.Key × V)} (h : Rd H a (.dK ys)) : Rd H' a (.dK ys) := by
  have ne : a ≠ d := fun e => by
    subst e
    rcases h with h | ⟨o, h⟩ <;> rcases A.a1 with q | ⟨od, q⟩ <;> (rw [h] at q; cases q)
  unfold Rd
  rw [A.off a ne]; exact h
theorem AgN.ne {a : Addr} {o : HO} (A : AgN d φ H H') (h : H a = some o) (n1 : ∀ ys, o ≠ .ext ys) (n2 : ∀ od u, o ≠ .frz od u) : a ≠ d := fun e => by
  subst e
  rcases A.a1 with q | ⟨od, q⟩
  · rw [h] at q; exact n1 _ (Option.some.inj q)
  · rw [h] at q; exact n2 _ _ (Option.some.inj q)
theorem AgN.ins (A : AgN d φ H H') {a C dx : Addr} {fs : List (Str × V)} (h : H a = some (.ins C dx fs)) : H' a = some (.ins C dx fs) := by
  rw [A.off a (A.ne h (fun _ => nofun) fun _ _ => nofun)]; exact h
theorem AgN.rext (A : AgN d φ H H') {a : Addr} {ψ : Heap → Prop} (h : Rd H a (.ext ψ)) : Rd H' a (.ext ψ) := by
  by_cases e : a = d
  · subst e
    have ey : ψ = φ := by rcases h with h | ⟨o, h⟩ <;> rcases A.a1 with q | ⟨od, q⟩ <;> (rw [h] at q; cases q; try rfl)
    subst ey
    rcases A.a2 with q | ⟨od, q⟩
    · exact .inl q
    · exact .inr ⟨od, q⟩
  · unfold Rd
    rw [A.off a e]; exact h
mutual
theorem Rp.agN {K : PySem.W.Frag} {d : Addr} {φ : Heap → Prop} {H H' : Hp} (A : AgN d φ H H') : ∀ {v : V} {x : D}, Rp K H v x → Rp K H' v x
  | _, _, .non => .non
  | _, _, .bl b => .bl b
  | _, _, .int i => .int i
  | _, _, .str x => .str x
  | _, _, .lst h r => .lst (A.lst h) (RpAll.agN A r)
  | _, _, .tup h r => .tup (A.sqt h) (RpAll.agN A r)
  | _, _, .obj h r => .obj (A.ins h) (RpFs.agN A r)
  | _, _, .adr a => .adr a
  | _, _, .ty n => .ty n
  | _, _, .er h1 h2 r => .er (A.rext h1) (A.rext h2) (RpFs.agN A r)
  | _, _, .dct h r => .dct (A.dK h) (RpKs.agN A r)
  | _, _, .dcn h s r => .dcn (A.rext h) s (RpNs.agN A r)
theorem RpAll.agN {K : PySem.W.Frag} {d : Addr} {φ : Heap → Prop} {H H' : Hp} (A : AgN d φ H H') : ∀ {vs : List V} {ds : List D}, RpAll K H vs ds → RpAll K H' vs ds
  | _, _, .nil => .nil
  | _, _, .cons h r => .cons (Rp.agN A h) (RpAll.agN A r)
theorem RpFs.agN {K : PySem.W.Frag} {d : Addr} {φ : Heap → Prop} {H H' : Hp} (A : AgN d φ H H') : ∀ {vs : List (Str × V)} {ds : List (Str × D)}, RpFs K H vs ds → RpFs K H' vs ds
  | _, _, .nil => .nil
  | _, _, .cons h r => .cons (Rp.agN A h) (RpFs.agN A r)
theorem RpKs.agN {K : PySem.W.Frag} {d : Addr} {φ : Heap → Prop} {H H' : Hp} (A : AgN d φ H H') : ∀ {vs : List (L2.Key × V)} {ds : List (L2.Key × D)}, RpKs K H vs ds → RpKs K H' vs ds
  | _, _, .nil => .nil
  | _, _, .cons h r => .cons (Rp.agN A h) (RpKs.agN A r)
theorem RpNs.agN {K : PySem.W.Frag} {d : Addr} {φ : Heap → Prop} {H H' : Hp} (A : AgN d φ H H') : ∀ {vs : List (NestedKey × Addr × Value)} {ds : List (D × D)}, RpNs K H vs ds → RpNs K H' vs ds
  | _, _, .nil => .nil
  | _, _, .cons a b h w v r => .cons a b (Rp.agN A h) w (Rp.agN A v) (RpNs.agN A r)
end
theorem NDict.agN {pr : Program} {wd : World} {K : PySem.W.Frag} {O : List Addr} {l : Addr} {kvs : List (D × D)} (A : AgN d φ H H') (hd : d ∉ O) (ne : l ≠ d) (h : NDict pr wd K O H l kvs) : NDict pr wd K O H' l kvs := by
  obtain ⟨ys, h1, h2, h3⟩ := h
  exact ⟨ys, (A.off l ne).trans h1, h2, ((RpNs.of h3).agN (A.hid hd)).pair⟩
theorem Slots.agN {pr : Program} {wd : World} {K : PySem.W.Frag} {O : List Addr} (A : AgN d φ H H') (hd : d ∉ O) : ∀ {σ : List (Option V)} {ρ : List SD} {L : List Addr}, Slots pr wd K O H σ ρ L → d ∉ L → Slots pr wd K O H' σ ρ L
  | _, _, _, .nil, _ => .nil
  | _, _, _, .un s, n => .un (Slots.agN A hd s n)
  | _, _, _, .val h s, n => .val (h.agN (A.hid hd)) (Slots.agN A hd s n)
  | _, _, _, .own (l := l) h r s, n => .own (by rw [A.off l fun e => n (e ▸ List.mem_cons_self)]; exact h) (r.agN (A.hid hd)) (Slots.agN A hd s fun q => n (List.mem_cons_of_mem _ q))
  | _, _, _, .dic (l := l) h s, n => .dic (h.agN A hd fun e => n (e ▸ List.mem_cons_self)) (Slots.agN A hd s fun q => n (List.mem_cons_of_mem _ q))
  | _, _, _, .dk (l := l) ⟨ys, h, r⟩ s, n => .dk ⟨ys, by rw [A.off l fun e => n (e ▸ List.mem_cons_self)]; exact h, r.agN (A.hid hd)⟩ (Slots.agN A hd s fun q => n (List.mem_cons_of_mem _ q))
  | _, _, _, .tw (l := l) ⟨vs, h, r, q⟩ s, n => .tw ⟨vs, (A.hid hd).sqt h, r.agN (A.hid hd), q.agN A hd fun e => n (e ▸ List.mem_cons_self)⟩ (Slots.agN A hd s fun q => n (List.mem_cons_of_mem _ q))
  | _, _, _, .ot h q s, n => .ot (OT.mv _ h (fun l hl => A.off l fun e => n (by rw [q, ← e]; exact List.mem_append_left _ hl)) fun _ _ r => r.agN (A.hid hd)) q (Slots.agN A hd s fun z => n (by rw [q]; exact List.mem_append_right _ z))
theorem BagOk.agN {b q : Addr} {n : Nat} (A : AgN d φ H H') (h : BagOk b q n H) : BagOk b q n H' := by
  obtain ⟨t, r, cs, h1, h2, h3⟩ := h
  exact ⟨t, r, cs, by rw [A.off b (A.ne h1 (fun _ => nofun) fun _ _ => nofun)]; exact h1, by rw [A.off q (A.ne h2 (fun _ => nofun) fun _ _ => nofun)]; exact h2, h3⟩
end
section
variable {c : Ctx} {ρ : List SD} {n : Nat} {g : TG} {te : TE} {t : TT} {vs : List Nat}
def keysN (kvs : List (D × D)) : List D := kvs.map (·.1)
theorem RpNs.len {K : PySem.W.Frag} {H : Hp} : ∀ {xs : List (NestedKey × Addr × Value)} {kvs : List (D × D)}, RpNs K H xs kvs → xs.length = kvs.length
  | _, _, .nil => rfl
  | _, _, .cons _ _ _ _ _ r => by rw [List.length_cons, List.length_cons, r.len]
theorem RpNs.key {K : PySem.W.Frag} {H : Hp} : ∀ {xs : List (NestedKey × Addr × Value)} {kvs : List (D × D)} {i : Nat} {kv : D × D}, RpNs K H xs kvs → kvs[i]? = some kv → ∃ y, xs[i]? = some y ∧ Rp K H (.ref y.2.1) kv.1
  | _, _, _, _, .nil, e => by simp at e
  | _, _, 0, _, .cons _ _ h _ _ _, e => by simp at e; subst e; exact ⟨_, rfl, h⟩
  | _, _, i + 1, _, .cons _ _ _ _ _ r, e => by
    obtain ⟨y, h1, h2⟩ := RpNs.key (i := i) r (by simpa using e)
    exact ⟨y, by simpa using h1, h2⟩
theorem it_n {pr : Program} {wd : World} {d : Addr} {od : Obj} {xs : List (NestedKey × Addr × Value)} {kvs : List (D × D)} {P : Hp} (hd : P d = some (.frz od (.ext (DictBare pr wd xs d)))) (hr : RpNs c.K P xs kvs) : ItOk c (ItN pr wd d od xs) (keysN kvs) P where
  go := fun L n H σ ρ E i y hy => by
    unfold keysN at hy
    rw [List.getElem?_map] at hy
    have hp : H d = some (.frz od (.ext (DictBare pr wd xs d))) := (hid_some.mp (E.pers d _ hd)).2
    cases hk : kvs[i]? with
    | none => rw [hk] at hy; cases hy
    | some kv =>
      rw [hk] at hy
      cases hy
      have hl : i < xs.length := by rw [hr.len]; exact (List.getElem?_eq_some_iff.mp hk).1
      refine ⟨⟨hp, hl⟩, fun x H' ⟨e1, y, e2, e3⟩ => ?_⟩
      subst e1; subst e3
      obtain ⟨y', g1, g2⟩ := hr.key hk
      rw [g1] at e2
      cases e2
      exact ⟨Same.refl _, g2.mono E.pers⟩
  stop := fun L n H σ ρ E i hi => by
    unfold keysN at hi
    rw [List.length_map, ← hr.len] at hi
    exact ⟨(hid_some.mp (E.pers d _ hd)).2, hi⟩
/-- the comprehension's part -/
def LcN (c : Ctx) (g : TG) (t : TT) (te : TE) (vs : List Nat) (ρ : List SD) (n : Nat) (ds : List D) (Φ : Nat → List D → Prop) : Prop := ∃ I : Nat → Nat → List D → Prop, I 0 n [] ∧
    (∀ k m acc d, ds[k]? = some d → I k m acc → WG c (RW vs) g d (wipeR ρ vs) m fun ρ2 => WT c t ρ2 m fun m2 b => if b = true then WE c te ρ2 m2 fun m3 y => acc.length < sizeLine ∧ I (k + 1) m3 (acc ++ [y]) else I (k + 1) m2 acc) ∧
    (∀ m acc, I ds.length m acc → Φ m acc)
/-- a comprehension over a walk that stands here -/
theorem lc_go {Φ : Nat → List D → Prop} {ds : List D} {P : Hp} {L : List Addr} {σ : List (Option V)} {H : Hp} {Q : VK} {J : It} (E : Env c P L n H σ ρ) (it : ItOk c J ds (hid (L ++ c.O) H)) (h : LcN c g t te vs ρ n ds Φ)
    (q : ∀ p xs ds n' H', Same (hid c.B H) (hid c.B H') → H p = none → H' p = some (.lst xs) → RpAll c.K (hid (p :: (L ++ c.O)) H') xs ds → c.J n' H' → Φ n' ds → Q (.ref p) H') : tLc (fun _ H R => R J H) g t te vs σ H Q := by
  obtain ⟨I, h0, hs, hd⟩ := h
  intro D hD
  have E1 := E.pers'
  obtain ⟨Ls, sl, sb⟩ := E1.slots
  obtain ⟨Lw, slw, sbw⟩ := sl.wipe vs
  have Ew : Env c (hid (L ++ c.O) H) L n H (wipe σ vs) (wipeR ρ vs) := E1.reslot slw (sbw.trans sb)
  have E2 := Ew.newOwn (xs := []) hD
  have DnL : D ∉ L := (E1.new hD).2.2
  -- the loop's invariant
  refine ⟨fun i m H' => m + i = ds.length ∧ ∃ n' xs acc, Env c (hid (L ++ c.O) H) (D :: L) n' H' (wipe σ vs) (wipeR ρ vs) ∧ H' D = some (.lst xs) ∧ RpAll c.K (hid ((D :: L) ++ c.O) H') xs acc ∧ Same (hid c.B H) (hid c.B H') ∧ I i n' acc, ⟨ds.length, rfl, n, [], [], E2, upd_same, .nil, (E1.newT hD).1, h0⟩, ?_⟩
  rintro i m H' ⟨hm, n', xs, acc, E', hDx, hacc, sB, hI⟩
  by_cases hi : i < ds.length
  · right
    have hg : ds[i]? = some ds[i] := List.getElem?_eq_getElem hi
    obtain ⟨go, yl⟩ := it.go (D :: L) n' H' _ _ E' i _ hg
    refine ⟨go, fun H2 => ∃ n' xs acc, Env c (hid (L ++ c.O) H) (D :: L) n' H2 (wipe σ vs) (wipeR ρ vs) ∧ H2 D = some (.lst xs) ∧ RpAll c.K (hid ((D :: L) ++ c.O) H2) xs acc ∧ Same (hid c.B H) (hid c.B H2) ∧ I (i + 1) n' acc, ?_, ?_⟩
    · rintro H2 ⟨n2, xs2, acc2, a1, a2, a3, a4, a5⟩
      exact ⟨m - 1, by omega, by omega, n2, xs2, acc2, a1, a2, a3, a4, a5⟩
    · intro x H2 hy
      obtain ⟨sm, rx⟩ := yl x H2 hy
      have z := E'.same sm
      have E2' := E'.step z.1 z.2
      refine hs i n' acc _ hg hI _ (D :: L) _ H2 x _ E2' rx fun σ3 ρ3 E3 hw k3 => ?_
      refine ⟨hw.trans (wipe_idem σ vs), ?_⟩
      refine k3 _ (D :: L) σ3 H2 _ E3 fun b n4 H4 s4 j4 k4 => ?_
      have back : ∀ {H5 : Hp} {n5 : Nat}, Same (hid c.B H2) (hid c.B H5) → c.J n5 H5 → Env c (hid (L ++ c.O) H) (D :: L) n5 H5 (wipe σ vs) (wipeR ρ vs) := fun s5 j5 => E2'.step s5 j5
      have own : ∀ {H5 : Hp}, Same (hid c.B H2) (hid c.B H5) → H5 D = some (.lst xs) := fun s5 => by
        rw [E2'.own s5 D List.mem_cons_self]
        exact sm D _ hDx
      have accs : ∀ {H5 : Hp}, Same (hid c.B H2) (hid c.B H5) → RpAll c.K (hid ((D :: L) ++ c.O) H5) xs acc := fun s5 => (hacc.mono (same_hid_of sm)).mono (E2'.sameLO s5)
      cases b with
      | false =>
        rw [if_neg Bool.false_ne_true] at k4 ⊢
        exact ⟨n4, xs, acc, back s4 j4, own s4, accs s4, (sB.trans z.1).trans s4, k4⟩
      | true =>
        rw [if_pos rfl] at k4 ⊢
        refine k4 _ (D :: L) σ3 H4 _ (E3.step s4 j4) fun y d n5 H5 s5 j5 r5 ⟨hz, k5⟩ => ?_
        have s45 := s4.trans s5
        refine ⟨xs, own s45, by rw [hacc.length]; exact hz, n5, xs ++ [y], acc ++ [d], ?_, upd_same, ?_, ?_, k5⟩
        · have Eb := back s45 j5
          obtain ⟨Ls5, sl5, sb5⟩ := Eb.slots
          have e5 := sl5.inj slw
          subst e5
          exact Eb.grow List.mem_cons_self sl5 sb5 fun q => DnL ((sbw.trans sb).subset q)
        · have hm : D ∈ (D :: L) ++ c.O := List.mem_append_left _ List.mem_cons_self
          rw [hid_upd_in hm]
          exact (accs s45).append (.cons r5 .nil)
        · exact same_upd_old hD ((sB.trans z.1).trans s45)
  · left
    have e : i = ds.length := by omega
    subst e
    refine ⟨it.stop (D :: L) n' H' _ _ E' _ (Nat.le_refl _), ?_⟩
    exact q D xs acc n' H' sB hD hDx hacc E'.bag (hd n' acc hI)

/-- [.. for .. in w[0]] -/
theorem wf_lcN {i : Nat} {kvs : List (D × D)} {ds : List D} {Φ : Nat → List D → Prop} (h0 : ρ[i]? = some (.val (.tup (.dcn c.pr c.wd kvs :: ds)))) (h : ∀ H0', LcN { c with H0 := H0' } g t te vs ρ n (keysN kvs) Φ) :
    WF c (tLockEOr (tLc (iKeysN c.pr c.wd (tOp (rIx c.K) (tVar i) (tC (.int 0)))) g t te vs)) ρ n Φ := fun P L σ H Q E q => by
  obtain ⟨Ls, sl, sb⟩ := E.slots
  obtain ⟨v, hv, rv⟩ := sl.get h0
  cases rv with
  | @tup a ws _ hsq rws =>
    cases rws with
    | @cons _ vs' _ _ r1 rr =>
      cases r1 with
      | @dcn d _ _ xs _ hd hsys rk =>
        have hix : ∀ (H2 : Hp) (R : V → Hp → Prop), SqT c.K H2 a (.ref d :: vs') → R (.ref d) H2 → tOp (rIx c.K) (tVar i) (tC (.int 0)) σ H2 R := fun H2 R h1 h2 => ⟨.ref a, hv, .inr (.inl ⟨a, _, 0, .ref d, rfl, rfl, h1, atI_nat (xs := V.ref d :: vs') (j := 0) rfl, h2⟩)⟩
        rcases hd with hd | ⟨od, hd⟩
        · -- not locked yet
          left
          have hdO : d ∉ L ++ c.O := (hid_some.mp hd).1
          have hdL : d ∉ L := fun q => hdO (List.mem_append_left _ q)
          have hdc : d ∉ c.O := fun q => hdO (List.mem_append_right _ q)
          have hH := (hid_some.mp hd).2
          refine ⟨d, .ext (DictBare c.pr c.wd xs d), hH, True.intro, fun od => ?_⟩
          have AG : AgN d (DictBare c.pr c.wd xs d) H (upd H d (.frz od (.ext (DictBare c.pr c.wd xs d)))) := ⟨fun a ha => upd_ne ha, .inl hH, .inr ⟨od, upd_same⟩⟩
          generalize hH1 : upd H d (.frz od (.ext (DictBare c.pr c.wd xs d))) = H1 at AG
          have hd1 : H1 d = some (.frz od (.ext (DictBare c.pr c.wd xs d))) := by rw [← hH1]; exact upd_same
          have E' : Env { c with H0 := hid L H1 } (hid (L ++ c.O) H1) L n H1 σ ρ :=
            { nd := E.nd, fresh := fun l hl => ⟨hid_in hl, (E.fresh l hl).2⟩,
              slots := ⟨Ls, sl.agN AG hdO fun q => hdL (sb.subset q), sb⟩,
              lst := fun l hl => by
                rw [AG.off l fun e => hdL (e ▸ hl)]; exact E.lst l hl,
              bag := fun b q hb => (E.bag b q hb).agN AG,
              base := fun a o e => by
                obtain ⟨e1, e2⟩ := hid_some.mp e
                exact hid_some.mpr ⟨e1, (hid_some.mp e2).2⟩,
              pers := Same.refl _, bO := E.bO,
              al := fun o ho => by rw [AG.off o fun e => hdc (e ▸ ho)]; exact E.al o ho }
          refine hix H1 _ (AG.sqt (same_t same_hid hsq)) ⟨d, od, xs, rfl, hsys, hd1, ?_⟩
          show tLc (fun _ H R => R (ItN c.pr c.wd d od xs) H) g t te vs σ H1 (fun v H' => H' d = some (.frz od (.ext (DictBare c.pr c.wd xs d))) ∧ Q v (upd H' d (.ext (DictBare c.pr c.wd xs d))))
          refine lc_go (c := { c with H0 := hid L H1 }) (P := hid (L ++ c.O) H1) (L := L) (J := ItN c.pr c.wd d od xs) E' (it_n (hid_some.mpr ⟨hdO, hd1⟩) (rk.agN (AG.hid hdO))) (h _) fun p ys es n2 H2 s2 hp hp2 r2 j2 k => ?_
          have hdB : d ∉ c.B := fun q => hdc (E.inO q)
          have hd2 : H2 d = some (.frz od (.ext (DictBare c.pr c.wd xs d))) := (hid_some.mp (s2 d _ (hid_some.mpr ⟨hdB, hd1⟩))).2
          have AG2 : AgN d (DictBare c.pr c.wd xs d) H2 (upd H2 d (.ext (DictBare c.pr c.wd xs d))) := ⟨fun a ha => upd_ne ha, .inr ⟨od, hd2⟩, .inl upd_same⟩
          have npd : p ≠ d := fun e => by rw [e, hd1] at hp; cases hp
          refine ⟨hd2, q p ys es n2 _ (fun a o e => ?_) ?_ (by rw [upd_ne npd]; exact hp2) (r2.agN (AG2.hid fun q => ?_)) (fun b q hb => (j2 b q hb).agN AG2) k⟩
          · obtain ⟨e1, e2⟩ := hid_some.mp e
            refine hid_some.mpr ⟨e1, ?_⟩
            by_cases q : a = d
            · subst q; rw [upd_same, ← e2, hH]
            · rw [upd_ne q]
              have : H1 a = some o := by rw [AG.off a q]; exact e2
              exact (hid_some.mp (s2 a o (hid_some.mpr ⟨e1, this⟩))).2
          · rw [← AG.off p npd]; exact hp
          · rcases List.mem_cons.mp q with q | q
            · exact npd q.symm
            · exact hdO q
        · right
          refine hix H _ (same_t same_hid hsq) ⟨d, od, xs, rfl, hsys, (hid_some.mp hd).2, ?_⟩
          show tLc (fun _ H R => R (ItN c.pr c.wd d od xs) H) g t te vs σ H Q
          exact lc_go (c := c) (L := L) (J := ItN c.pr c.wd d od xs) E.pers' (it_n hd rk) (h c.H0) q
end
end L3
/-! L3y: isinstance of a tuple of types; {k: v for ..}. -/
namespace L3
open PySem L2
def rIsi2 (K : PySem.W.Frag) : List V → Hp → VK → Prop := fun xs H Q => ∃ (x : V) (tp : Addr) (cs : List V) (t : Value) (us : List Value) (b : Bool), xs = [x, .ref tp] ∧ SqT K H tp cs ∧ Paired ClsV cs us ∧ TyX K H x t ∧ PySem.W.kitAny K t us = some b ∧ Q (.bl b) H
theorem x_isi2 {X : Cx} (K : PySem.W.Frag) (hK : X.K = K := by rfl) : CallR X (.builtin "isinstance") (rIsi2 K) := by
  subst hK
  intro pins s σ H xs us Q I r h
  obtain ⟨x, tp, cs, t, ws, b, rfl, hT, k, ty, e, q⟩ := h
  obtain ⟨u1, u2, rfl, r1, r2⟩ := vals2 r
  cases (show u2 = Value.ref tp from r2)
  obtain ⟨P, Z, p, hx⟩ := kit_of I r1 ty
  rcases hT with hT | ⟨o, its, n, hk, hc, hd, _, rv⟩
  · obtain ⟨_, its, rv, o, h1, h2, n, h3⟩ := hT.ok I.hok
    have e3 := ClsV.all k rv
    subst e3
    obtain ⟨oc, od, dt, sl⟩ := o
    simp only at h2 h3
    subst h2 h3
    exact PySem.W.kia_tup Z I.kIn p h1 e hx fun tk => ⟨.bl b, H, I.tok tk, rfl, q⟩
  · have e3 := ClsV.all k rv
    subst e3
    have h1 := I.kIn _ _ hk
    obtain ⟨oc, od, dt, sl⟩ := o
    obtain ⟨il⟩ := its
    simp only at hc hd
    subst hc hd
    exact PySem.W.kia_tup Z I.kIn p h1 e hx fun tk => ⟨.bl b, H, I.tok tk, rfl, q⟩
theorem rp_tys {K : PySem.W.Frag} {H : Hp} : ∀ {vs : List V} {Us : List String}, RpAll K H vs (Us.map .ty) → Paired ClsV vs (Us.map Value.type)
  | _, [], h => by cases h; exact .nil
  | _, U :: Us, h => by
    cases h with
    | cons h r => cases h; exact .cons (.ty U) (rp_tys r)
theorem rc_isi2 {K : PySem.W.Frag} {Φ : D → Prop} {d : D} {T : String} {Us : List String} {b : Bool} (h : tyD d = some T) (hk : PySem.W.kitAny K (.type T) (Us.map Value.type) = some b) (k : Φ (.bl b)) : RCD K (rIsi2 K) [d, .tup (Us.map .ty)] Φ := fun O H xs Q rs no q => by
  obtain ⟨v, u, rfl, r1, r2⟩ := rs.two
  cases r2 with
  | tup hs ha => exact ⟨v, _, _, .type T, _, b, rfl, same_t same_hid hs, rp_tys ha, tyD_X r1 h, hk, q _ _ H (Same.refl _) (.bl _) k⟩
theorem kit_rowL {K : PySem.W.Frag} : PySem.W.kitAny K (.type "list") (["list", "tuple"].map Value.type) = some true := kitAny_cons (b := true) (kit_ty (by decide +kernel)) nofun fun _ => rfl
theorem kit_rowT {K : PySem.W.Frag} : PySem.W.kitAny K (.type "tuple") (["list", "tuple"].map Value.type) = some true := kitAny_cons (b := false) (kit_ty (by decide +kernel)) (fun _ => kitAny_cons (b := true) (kit_ty (by decide +kernel)) nofun fun _ => rfl) nofun
section
variable {c : Ctx} {ρ : List SD} {n : Nat} {g : TG} {tk tv : TE} {t : TT} {vs : List Nat}
/-- a new thing of one's own changes -/
theorem Env.growAny {P : Hp} {L : List Addr} {n : Nat} {H : Hp} {σ : List (Option V)} {D : Addr} {u : HO} {Ls : List Addr} (E : Env c P L n H σ ρ) (hD : D ∈ L) (sl : Slots c.pr c.wd c.K (L ++ c.O) H σ ρ Ls) (sb : Ls.Sublist L) (hn : D ∉ Ls) : Env c P L n (upd H D u) σ ρ := by
  have hm : D ∈ L ++ c.O := List.mem_append_left _ hD
  have hB : D ∉ c.B := E.notB hD
  have hO : D ∉ c.O := (E.fresh D hD).2
  exact { nd := E.nd, fresh := E.fresh,
          slots := ⟨Ls, sl.move (fun l hl => upd_ne fun e => hn (e ▸ hl)) (by rw [hid_upd_in hm]; exact Same.refl _), sb⟩,
          lst := fun l hl => by
            by_cases e : l = D
            · exact ⟨_, by rw [e, upd_same]⟩
            · rw [upd_ne e]; exact E.lst l hl,
          bag := fun b q hb => (E.bag b q hb).move (fun o h => by rw [upd_ne fun e : b = D => hO (e ▸ (E.bO b q hb).1)]; exact h) fun o h => by rw [upd_ne fun e : q = D => hO (e ▸ (E.bO b q hb).2.1)]; exact h,
          base := fun a o h => by
            have h0 : c.H0 D = none := (E.fresh D hD).1
            have ne : a ≠ D := fun e => by
              rw [e, hid_some] at h
              rw [h0] at h
              cases h.2
            obtain ⟨h1, h2⟩ := hid_some.mp (E.base a o h)
            exact hid_some.mpr ⟨h1, by rw [upd_ne ne]; exact h2⟩,
          pers := by rw [hid_upd_in hm]; exact E.pers,
          bO := E.bO,
          al := fun o ho => by rw [upd_ne fun e : o = D => hO (e ▸ ho)]; exact E.al o ho }
/-- {k: v for ..} -/
theorem we_dc {wi : TI} {Φ : Nat → D → Prop} (h : WI c wi ρ n fun n1 ds => ∃ I : Nat → Nat → List (L2.Key × D) → Prop, I 0 n1 [] ∧
    (∀ k m acc d, ds[k]? = some d → I k m acc → WG c (RW vs) g d (wipeR ρ vs) m fun ρ2 => WT c t ρ2 m fun m2 b => if b = true then WE c tk ρ2 m2 fun m3 y => WE c tv ρ2 m3 fun m4 z => ∃ key, y = kD key ∧ acc.length < sizeLine ∧ I (k + 1) m4 (putKD acc key z) else I (k + 1) m2 acc) ∧
    (∀ m acc, I ds.length m acc → Φ m (.dct acc))) : WE c (tDc wi g t tk tv vs) ρ n Φ := fun P L σ H Q E q => by
  refine h P L σ H _ E fun J ds n1 H1 s1 j1 it ⟨I, h0, hs, hd⟩ => ?_
  intro D hD
  have E1 := (E.step s1 j1).pers'
  obtain ⟨Ls, sl, sb⟩ := E1.slots
  obtain ⟨Lw, slw, sbw⟩ := sl.wipe vs
  have Ew : Env c (hid (L ++ c.O) H1) L n1 H1 (wipe σ vs) (wipeR ρ vs) := E1.reslot slw (sbw.trans sb)
  have E2 := Ew.newAny (o := .dK []) hD
  have DnL : D ∉ L := (E1.new hD).2.2
  have DnO : D ∉ L ++ c.O := E1.noO D hD
  refine ⟨fun i m H' => m + i = ds.length ∧ ∃ n' xs acc, Env c (hid (L ++ c.O) H1) (D :: L) n' H' (wipe σ vs) (wipeR ρ vs) ∧ H' D = some (.dK xs) ∧ RpKs c.K (hid ((D :: L) ++ c.O) H') xs acc ∧ Same (hid c.B H1) (hid c.B H') ∧ I i n' acc, ⟨ds.length, rfl, n1, [], [], E2, upd_same, .nil, (E1.newT hD).1, h0⟩, ?_⟩
  rintro i m H' ⟨hm, n', xs, acc, E', hDx, hacc, sB, hI⟩
  by_cases hi : i < ds.length
  · right
    have hg : ds[i]? = some ds[i] := List.getElem?_eq_getElem hi
    obtain ⟨go, yl⟩ := it.go (D :: L) n' H' _ _ E' i _ hg
    refine ⟨go, fun H2 => ∃ n' xs acc, Env c (hid (L ++ c.O) H1) (D :: L) n' H2 (wipe σ vs) (wipeR ρ vs) ∧ H2 D = some (.dK xs) ∧ RpKs c.K (hid ((D :: L) ++ c.O) H2) xs acc ∧ Same (hid c.B H1) (hid c.B H2) ∧ I (i + 1) n' acc, ?_, ?_⟩
    · rintro H2 ⟨n2, xs2, acc2, a1, a2, a3, a4, a5⟩
      exact ⟨m - 1, by omega, by omega, n2, xs2, acc2, a1, a2, a3, a4, a5⟩
    · intro x H2 hy
      obtain ⟨sm, rx⟩ := yl x H2 hy
      have z := E'.same sm
      have E2' := E'.step z.1 z.2
      refine hs i n' acc _ hg hI _ (D :: L) _ H2 x _ E2' rx fun σ3 ρ3 E3 hw k3 => ?_
      refine ⟨hw.trans (wipe_idem σ vs), ?_⟩
      refine k3 _ (D :: L) σ3 H2 _ E3 fun b n4 H4 s4 j4 k4 => ?_
      have back : ∀ {H5 : Hp} {n5 : Nat}, Same (hid c.B H2) (hid c.B H5) → c.J n5 H5 → Env c (hid (L ++ c.O) H1) (D :: L) n5 H5 (wipe σ vs) (wipeR ρ vs) := fun s5 j5 => E2'.step s5 j5
      have own : ∀ {H5 : Hp}, Same (hid c.B H2) (hid c.B H5) → H5 D = some (.dK xs) := fun s5 => by
        rw [E2'.own s5 D List.mem_cons_self]
        exact sm D _ hDx
      have accs : ∀ {H5 : Hp}, Same (hid c.B H2) (hid c.B H5) → RpKs c.K (hid ((D :: L) ++ c.O) H5) xs acc := fun s5 => (hacc.mono (same_hid_of sm)).mono (E2'.sameLO s5)
      cases b with
      | false =>
        rw [if_neg Bool.false_ne_true] at k4 ⊢
        exact ⟨n4, xs, acc, back s4 j4, own s4, accs s4, (sB.trans z.1).trans s4, k4⟩
      | true =>
        rw [if_pos rfl] at k4 ⊢
        refine k4 _ (D :: L) σ3 H4 _ (E3.step s4 j4) fun y d n5 H5 s5 j5 r5 k5 => ?_
        refine k5 _ (D :: L) σ3 H5 _ ((E3.step s4 j4).step s5 j5) fun y2 d2 n6 H6 s6 j6 r6 ⟨key, ek, hz, k6⟩ => ?_
        subst ek
        have ey : y = kV key := by
          cases key with
          | inl i => cases r5; rfl
          | inr i => cases r5; rfl
        have s46 := (s4.trans s5).trans s6
        refine ⟨xs, key, ey, own s46, by rw [hacc.length]; exact hz, n6, putK xs key y2, putKD acc key d2, ?_, upd_same, ?_, ?_, k6⟩
        · have Eb := back s46 j6
          obtain ⟨Ls5, sl5, sb5⟩ := Eb.slots
          have e5 := sl5.inj slw
          subst e5
          exact Eb.growAny List.mem_cons_self sl5 sb5 fun q => DnL ((sbw.trans sb).subset q)
        · have hm : D ∈ (D :: L) ++ c.O := List.mem_append_left _ List.mem_cons_self
          rw [hid_upd_in hm]
          exact RpKs.put r6 (accs s46)
        · exact same_upd_old hD ((sB.trans z.1).trans s46)
  · left
    have e : i = ds.length := by omega
    subst e
    refine ⟨it.stop (D :: L) n' H' _ _ E' _ (Nat.le_refl _), ?_⟩
    exact q _ _ n' H' (s1.trans sB) E'.bag (.dct (.inl (by rw [hid_out DnO]; exact hDx)) (hacc.mono (same_hid_sub fun a ha => List.mem_cons_of_mem _ ha))) (hd n' acc hI)
end
theorem r2_dgetK {K : PySem.W.Frag} {Φ : D → Prop} {kvs : List (L2.Key × D)} {y : D} {k : L2.Key} {d : D} (hk : keyK y = some k) (hl : lookK kvs k = some d) (kk : Φ d) : R2D K (fun x y H2 Q => ∃ a v, x = .ref a ∧ DGet H2 a y (some v) ∧ Q v H2) (.dct kvs) y Φ := fun O H x z Q rx ry no q => by
  cases rx with
  | dct hs rk =>
    obtain ⟨v, hv, rv⟩ := rk.look.1 d hl
    exact ⟨_, v, rfl, .inl ⟨_, k, same_rd same_hid hs, keyK_V ry hk, hv.symm⟩, q v d H (Same.refl _) rv kk⟩
/-- a method as its callers see it -/
structure Mt (P : Program) (w : World) (K : PySem.W.Frag) (mg : Str → Option Value) (base : Heap) (C : Addr) (x : Str) (k : Nat) (ps : List Str) (S : L3.Spec) where
  f : Addr
  fd : FuncData
  cl : Cls K C
  me : Meth K C x f
  G : FnOk P w K mg base CX0 k f fd ps (spD K S)
  b : Binds K fd ps []
end L3
/-! L3z: errors over data: defs that raise, raise, try .. except .. as. -/
namespace L3
open PySem L2
/-! ### promises with errors -/
/-- wished of an error, told by its class and its fields -/
abbrev Er := Nat → List SD → Addr → List (Str × D) → Prop
def XA (c : Ctx) (W : WX) (Ξ : Er) : Prop :=
  ∀ P L n H σ ρ C dx fs ks, Env c P L n H σ ρ → H dx = some (.xd fs) → dx ∉ L ++ c.O → RpFs c.K (hid (L ++ c.O) H) fs ks → Ξ n ρ C ks → W (.ref C) (some dx) σ H
abbrev SpecX := Option (Addr × Addr) → Nat → List D → (Nat → D → Prop) → (Nat → Addr → List (Str × D) → Prop) → Prop
def spDX (K : PySem.W.Frag) (S : SpecX) : Sp := fun vs H Q E => ∃ (O : List Addr) (bag : Option (Addr × Addr)) (n : Nat) (ds : List D) (Φ : Nat → D → Prop) (Ξ : Nat → Addr → List (Str × D) → Prop),
  (∀ b q, bag = some (b, q) → BagOk b q n H ∧ b ∈ O ∧ q ∈ O ∧ q ≠ b) ∧ (∀ o ∈ O, H o ≠ none) ∧ RpAll K (hid O H) vs ds ∧ S bag n ds Φ Ξ ∧
  (∀ v d n' H', Same (hid (bagB bag) H) (hid (bagB bag) H') → (∀ b q, bag = some (b, q) → BagOk b q n' H') → Rp K (hid O H') v d → Φ n' d → Q v H') ∧
  ∀ C dx fs ks n' H', Same (hid (bagB bag) H) (hid (bagB bag) H') → (∀ b q, bag = some (b, q) → BagOk b q n' H') → H' dx = some (.xd fs) → dx ∉ O → RpFs K (hid O H') fs ks → Ξ n' C ks → E (.ref C) (some dx) H'
section
variable {P : Program} {w : World} {K : PySem.W.Frag} {mg : Str → Option Value} {base : Heap}
theorem env_start {O : List Addr} {bag : Option (Addr × Addr)} {n : Nat} {H : Hp} {vs : List V} {ds : List D} (N : List Str) (hb : ∀ b q, bag = some (b, q) → BagOk b q n H ∧ b ∈ O ∧ q ∈ O ∧ q ≠ b) (hO : ∀ o ∈ O, H o ≠ none) (r : RpAll K (hid O H) vs ds) :
    Env ⟨P, w, K, O, bag, H⟩ (fun _ => none) [] n H (L2.start N vs) (rho N ds) := by
  have e : L2.start N vs = vs.map some ++ List.replicate (N.length - ds.length) none := by unfold L2.start; rw [r.length]
  exact { nd := List.nodup_nil, fresh := (fun l hl => nomatch hl), slots := ⟨[], by rw [e]; exact slots_start r, List.Sublist.refl _⟩, lst := (fun l hl => nomatch hl), bag := fun b q e => (hb b q e).1, base := Same.refl _,
          pers := (fun _ _ e => nomatch e), bO := fun b q e => (hb b q e).2, al := hO }
/-- THE RULE for a def that may raise -/
theorem fn_DX {x qual : Str} {st : Stmt} {f : Addr} {fd : FuncData} {N ps : List Str} {k : Nat} {S : SpecX} (F : Fun K x qual st f fd) (sc : FnScope N ps (defScope st))
    (len : ∀ bag n ds Φ Ξ, S bag n ds Φ Ξ → ds.length = ps.length)
    (body : ∀ (cdv : Value) (A : Around) (outer : List PySem.Env) (s : Shared) (H : Hp) (E : XK) (O : List Addr) (bag : Option (Addr × Addr)) (n : Nat) (ds : List D) (Φ : Nat → D → Prop) (Ξ : Nat → Addr → List (Str × D) → Prop), Room k (A.deeper (PyProof.Rows.envOfC qual (defScope st) s.heap.objs.size f cdv)) → S bag n ds Φ Ξ →
      XA ⟨P, w, K, O, bag, H⟩ (fun cls d _ H' => E cls d H') (fun n' _ C ks => Ξ n' C ks) →
      ∃ t, PSs (cxOf (L2.CX P w) P w K mg base N qual (defScope st) f cdv A outer s H E) (defBody st) t ∧ WS ⟨P, w, K, O, bag, H⟩ t (rho N ds) n { nx := fun n' _ => Φ n' .non, rt := Φ }) :
    FnOk P w K mg base (L2.CX P w) (k + 1) f fd ps (spDX K S) := by
  refine F.okX sc (fun vs H Q E h => ?_) (fun cdv A outer s H vs Q E hr h => ?_)
  · obtain ⟨O, bag, n, ds, Φ, Ξ, _, _, r, hS, _⟩ := h
    rw [r.length]; exact len bag n ds Φ Ξ hS
  · obtain ⟨O, bag, n, ds, Φ, Ξ, hb, hO, r, hS, q, qx⟩ := h
    have hx : XA ⟨P, w, K, O, bag, H⟩ (fun cls d _ H' => E cls d H') (fun n' _ C ks => Ξ n' C ks) := fun P' L n' H' σ ρ C dx fs ks E' hd hn hf kk =>
      qx C dx fs ks n' H' E'.base (fun b q e => E'.bag b q e) hd (fun z => hn (List.mem_append_right _ z)) (hf.mono (same_hid_sub fun a ha => List.mem_append_right _ ha)) kk
    obtain ⟨t, ht, W⟩ := body cdv A outer s H E O bag n ds Φ Ξ hr hS hx
    refine ⟨t, ht, W (fun _ => none) [] _ H _ (env_start N hb hO r) ?_⟩
    exact { nx := fun L n' H' σ ρ E k => q .non .non n' H' E.base (fun b q e => E.bag b q e) .non k,
            rt := fun v d n' H' s j r k => q v d n' H' s j r k, bk := fun _ _ _ _ _ _ k => k.elim, ct := fun _ _ _ _ _ _ k => k.elim }
end
section
variable {c : Ctx} {ρ : List SD} {n : Nat} {te to : TE} {as : TA} {Φ : Nat → D → Prop} {W : WX} {Ξ : Er} {Ψ : Out}
theorem we_callX {S : SpecX} {dvs : List V} {dds : List D} (hw : XA c W Ξ) (hd : ∀ H, RpAll c.K H dvs dds) (h : WA c as ρ n fun n1 ds => S c.bag n1 (ds ++ dds) Φ fun n2 C ks => Ξ n2 ρ C ks) :
    WE c (tCallSD (spDX c.K S) dvs (fun σ => L2.WE W σ) as) ρ n Φ := fun P L σ H Q E q => by
  refine h P L σ H _ E fun vs ds n1 H1 s1 j1 r1 k => ?_
  have E1 := E.step s1 j1
  refine ⟨L ++ c.O, c.bag, n1, ds ++ dds, Φ, _, fun b q hb => ⟨j1 b q hb, List.mem_append_right _ (E.bO b q hb).1, List.mem_append_right _ (E.bO b q hb).2.1, (E.bO b q hb).2.2⟩, E1.alLO, r1.append (hd _), k,
    fun v d n2 H2 s2 j2 r2 k2 => q v d n2 H2 (s1.trans s2) j2 r2 k2, fun C dx fs ks n2 H2 s2 j2 hx hn hf kk => ?_⟩
  exact hw P L n2 H2 σ ρ C dx fs ks (E1.step s2 j2) hx hn hf kk
theorem we_methX {C : Addr} {m : Str} {S : SpecX} {dvs : List V} {dds : List D} {XE : XK} (hw : XA c (fun cls d _ H => XE cls d H) Ξ) (hd : ∀ H, RpAll c.K H dvs dds)
    (h : WE c to ρ n fun n1 x => ∃ ds, x = .obj C ds ∧ ds.lookup m = none ∧ WA c as ρ n1 fun n2 es => S c.bag n2 (.obj C ds :: (es ++ dds)) Φ fun n3 C ks => Ξ n3 ρ C ks) : WE c (tMeth C m (spDX c.K S) dvs XE to as) ρ n Φ := fun P L σ H Q E q => by
  refine h P L σ H _ E fun x d n1 H1 s1 j1 r1 ⟨ds, e, hn, ha⟩ => ?_
  subst e
  have E1 := E.step s1 j1
  cases r1 with
  | obj h1 hf =>
    refine ⟨_, _, _, rfl, (hid_some.mp h1).2, hf.none hn, ?_⟩
    refine ha P L σ H1 _ E1 fun vs es n2 H2 s2 j2 r2 k => ?_
    have E2 := E1.step s2 j2
    refine ⟨L ++ c.O, c.bag, n2, _, Φ, _, fun b q hb => ⟨j2 b q hb, List.mem_append_right _ (E.bO b q hb).1, List.mem_append_right _ (E.bO b q hb).2.1, (E.bO b q hb).2.2⟩, E2.alLO, .cons ((Rp.obj h1 hf).mono (E1.sameLO s2)) (r2.append (hd _)), k,
      fun v d n3 H3 s3 j3 r3 k3 => q v d n3 H3 ((s1.trans s2).trans s3) j3 r3 k3, fun C' dx fs ks n3 H3 s3 j3 hx hn hf kk => ?_⟩
    exact hw P L n3 H3 σ ρ C' dx fs ks (E2.step s3 j3) hx hn hf kk

/-! ### raise -/
theorem RpFs.append {K : PySem.W.Frag} {H : Hp} : ∀ {vs : List (Str × V)} {ds : List (Str × D)} {vs' : List (Str × V)} {ds' : List (Str × D)}, RpFs K H vs ds → RpFs K H vs' ds' → RpFs K H (vs ++ vs') (ds ++ ds')
  | _, _, _, _, .nil, r => r
  | _, _, _, _, .cons h t, r => .cons h (t.append r)
theorem RpFs.rev {K : PySem.W.Frag} {H : Hp} : ∀ {vs : List (Str × V)} {ds : List (Str × D)}, RpFs K H vs ds → RpFs K H vs.reverse ds.reverse
  | _, _, .nil => .nil
  | _, _, .cons h t => by
    rw [List.reverse_cons, List.reverse_cons]
    exact t.rev.append (.cons h .nil)
theorem rpfs_zip {K : PySem.W.Frag} {H : Hp} : ∀ {fs : List Str} {vs : List V} {ds : List D}, RpAll K H vs ds → RpFs K H (fs.zip vs) (fs.zip ds)
  | [], _, _, _ => .nil
  | _ :: _, _, _, .nil => .nil
  | _ :: _, _, _, .cons h t => .cons h (rpfs_zip t)
/-- an error's __init__ that keeps its arguments -/
def spXI (C : Addr) (fs : List Str) : Sp := fun vs H Q _ => ∃ (a : Addr) (ws : List V), vs = .ref a :: ws ∧ ws.length = fs.length ∧ H a = some (exo a C none) ∧
  ∀ (d : Addr) (H' : Hp), H d = none → H' a = some (exo a C (some d)) → H' d = some (exd d (fs.zip ws).reverse) → (∀ b, b ≠ a → b ≠ d → H' b = H b) → Q .non H'
theorem ws_raise {C : Addr} {fs : List Str} (hw : XA c W Ξ) (h : WA c as ρ n fun n1 ds => ds.length = fs.length ∧ fs.length ≤ 1000 ∧ Ξ n1 ρ C (fs.zip ds).reverse) :
    WS c (fun _ σ H => tMkO C (spXI C fs) [] as σ H fun cls d H' => W cls d σ H') ρ n Ψ := fun P L σ H Dn E A => by
  refine h P L σ H _ E fun vs ds n1 H1 s1 j1 r1 ⟨hl, hz, k⟩ => ?_
  have E1 := E.step s1 j1
  have hvl : vs.length = fs.length := r1.length.trans hl
  refine ⟨by omega, fun a ha => ⟨a, vs, by rw [List.append_nil], hvl, upd_same, fun d H' hd e1 e2 e3 => ?_⟩⟩
  have hda : d ≠ a := fun z => by
    rw [z, upd_same] at hd
    cases hd
  have hd1 : H1 d = none := by rw [upd_ne hda] at hd; exact hd
  refine ⟨rfl, d, _, e1, e2, hd1, ?_⟩
  have eH : upd (del H' a) d (.xd (fs.zip vs).reverse) = upd H1 d (.xd (fs.zip vs).reverse) := by
    funext b
    by_cases hb : b = d
    · rw [hb, upd_same, upd_same]
    · rw [upd_ne hb, upd_ne hb]
      by_cases hba : b = a
      · rw [hba, del_same, ha]
      · rw [del_ne hba, e3 b hba hb, upd_ne hba]
  rw [eH]
  have dO : d ∉ L ++ c.O := E1.noO d hd1
  have sm : Same H1 (upd H1 d (.xd (fs.zip vs).reverse)) := same_upd_new hd1
  obtain ⟨s2, j2⟩ := E1.same sm
  exact hw P L n1 _ σ ρ C d _ _ (E1.step s2 j2) upd_same dO ((rpfs_zip r1).rev.mono (same_hid_of sm)) k
end

/-! ### what is owned is hidden for a while -/
/-- one's own things put aside -/
def asd : SD → SD
  | .un => .un
  | .val d => .val d
  | _ => .un
section
variable {pr : Program} {wd : World} {K : PySem.W.Frag} {O : List Addr} {H : Hp}
theorem Slots.asd : ∀ {σ : List (Option V)} {ρ : List SD} {L : List Addr}, Slots pr wd K O H σ ρ L → Slots pr wd K O H σ (ρ.map L3.asd) []
  | _, _, _, .nil => .nil
  | _, _, _, .un s => .un s.asd
  | _, _, _, .val h s => .val h s.asd
  | _, _, _, .own _ _ s => .un s.asd
  | _, _, _, .dic _ s => .un s.asd
  | _, _, _, .dk _ s => .un s.asd
  | _, _, _, .tw _ s => .un s.asd
  | _, _, _, .ot _ _ s => .un s.asd
theorem Slots.gone : ∀ {σ : List (Option V)} {ρ : List SD} {L : List Addr} (i : Nat), Slots pr wd K O H σ ρ L → ∃ L', Slots pr wd K O H (σ.set i none) (ρ.set i .un) L' ∧ L'.Sublist L
  | _, _, _, _, .nil => ⟨[], .nil, List.Sublist.refl _⟩
  | _, _, _, 0, .un s => ⟨_, .un s, List.Sublist.refl _⟩
  | _, _, _, 0, .val _ s => ⟨_, .un s, List.Sublist.refl _⟩
  | _, _, _, 0, .own _ _ s => ⟨_, .un s, List.sublist_cons_self _ _⟩
  | _, _, _, 0, .dic _ s => ⟨_, .un s, List.sublist_cons_self _ _⟩
  | _, _, _, 0, .dk _ s => ⟨_, .un s, List.sublist_cons_self _ _⟩
  | _, _, _, 0, .tw _ s => ⟨_, .un s, List.sublist_cons_self _ _⟩
  | _, _, _, i + 1, .un s => by
    obtain ⟨L', h1, h2⟩ := Slots.gone i s
    exact ⟨L', .un h1, h2⟩
  | _, _, _, i + 1, .val h s => by
    obtain ⟨L', h1, h2⟩ := Slots.gone i s
    exact ⟨L', .val h h1, h2⟩
  | _, _, _, i + 1, .own h r s => by
    obtain ⟨L', h1, h2⟩ := Slots.gone i s
    exact ⟨_ :: L', .own h r h1, h2.cons_cons _⟩
  | _, _, _, i + 1, .dic h s => by
    obtain ⟨L', h1, h2⟩ := Slots.gone i s
    exact ⟨_ :: L', .dic h h1, h2.cons_cons _⟩
  | _, _, _, i + 1, .dk h s => by
    obtain ⟨L', h1, h2⟩ := Slots.gone i s
    exact ⟨_ :: L', .dk h h1, h2.cons_cons _⟩
  | _, _, _, i + 1, .tw h s => by
    obtain ⟨L', h1, h2⟩ := Slots.gone i s
    exact ⟨_ :: L', .tw h h1, h2.cons_cons _⟩
  | _, _, _, 0, .ot _ q s => ⟨_, .un s, by rw [q]; exact List.sublist_append_right _ _⟩
  | _, _, _, i + 1, .ot h q s => by
    obtain ⟨L', h1, h2⟩ := Slots.gone i s
    exact ⟨_, .ot h rfl h1, by rw [q]; exact List.Sublist.append_left h2 _⟩
end
section
variable {c : Ctx} {P P' : Hp} {L L' : List Addr} {n n' : Nat} {H H' : Hp} {σ σ' : List (Option V)} {ρ ρ' : List SD}
theorem Env.unset (E : Env c P L n H σ ρ) (i : Nat) : Env c P L n H (σ.set i none) (ρ.set i .un) := by
  obtain ⟨Ls, sl, sb⟩ := E.slots
  obtain ⟨L', s, sub⟩ := sl.gone i
  exact E.reslot s (sub.trans sb)
/-- a new beginning at this heap -/
theorem Env.re (E : Env c P L n H σ ρ) : Env { c with O := L ++ c.O, H0 := H } (fun _ => none) [] n H σ (ρ.map asd) where
  nd := List.nodup_nil
  fresh := (fun l hl => nomatch hl)
  slots := by
    obtain ⟨Ls, sl, _⟩ := E.slots
    exact ⟨[], sl.asd, List.Sublist.refl _⟩
  lst := (fun l hl => nomatch hl)
  bag := E.bag
  base := Same.refl _
  pers := (fun _ _ e => nomatch e)
  bO := fun b q e => ⟨List.mem_append_right _ (E.bO b q e).1, List.mem_append_right _ (E.bO b q e).2.1, (E.bO b q e).2.2⟩
  al := E.alLO
/-- .. and back -/
theorem Env.back (E : Env c P L n H σ ρ) (E2 : Env { c with O := L ++ c.O, H0 := H } P' L' n' H' σ' ρ') : Env c P (L' ++ L) n' H' σ' ρ' where
  nd := by
    refine List.nodup_append.mpr ⟨E2.nd, E.nd, fun a ha b hb e => ?_⟩
    subst e
    exact (E2.fresh a ha).2 (List.mem_append_left _ hb)
  fresh := fun l hl => by
    rcases List.mem_append.mp hl with q | q
    · have w := E.new (show H l = none from (E2.fresh l q).1)
      exact ⟨w.1, w.2.1⟩
    · exact E.fresh l q
  slots := by
    obtain ⟨Ls, sl, sb⟩ := E2.slots
    refine ⟨Ls, ?_, sb.trans (List.sublist_append_left _ _)⟩
    rw [List.append_assoc]
    exact sl
  lst := fun l hl => by
    rcases List.mem_append.mp hl with q | q
    · exact E2.lst l q
    · obtain ⟨o, h⟩ := E.lst l q
      exact ⟨o, (hid_some.mp (E2.base l o (hid_some.mpr ⟨E.notB q, h⟩))).2⟩
  bag := E2.bag
  base := E.base.trans E2.base
  pers := fun a o h => by
    obtain ⟨h1, h2⟩ := hid_some.mp (E.pers a o h)
    refine hid_some.mpr ⟨fun q => ?_, (hid_some.mp (E2.base a o (hid_some.mpr ⟨fun q => h1 (E.BLO a q), h2⟩))).2⟩
    rw [List.append_assoc] at q
    rcases List.mem_append.mp q with q | q
    · have z : H a = none := (E2.fresh a q).1
      rw [h2] at z
      cases z
    · exact h1 q
  bO := E.bO
  al := fun o ho => E2.al o (List.mem_append_right _ ho)
/-- what was seen of the ground at the new beginning -/
theorem Env.old (E : Env c P L n H σ ρ) : Same (hid c.O c.H0) (hid (L ++ c.O) H) := fun a o h => by
  obtain ⟨h1, h2⟩ := hid_some.mp h
  refine hid_some.mpr ⟨fun q => ?_, (hid_some.mp (E.base a o (hid_some.mpr ⟨fun q => h1 (E.inO q), h2⟩))).2⟩
  rcases List.mem_append.mp q with q | q
  · have z := (E.fresh a q).1
    rw [h2] at z
    cases z
  · exact h1 q
theorem Acc.re {Ψ : Out} {Dn : Ends} (E : Env c P L n H σ ρ) (A : Acc c P Ψ Dn) {P2 : Hp} : Acc { c with O := L ++ c.O, H0 := H } P2 Ψ Dn where
  nx := fun L2 n2 H2 σ2 ρ2 E2 k => A.nx (L2 ++ L) n2 H2 σ2 ρ2 (E.back ({ E2 with pers := E2.pers } : Env { c with O := L ++ c.O, H0 := H } P2 L2 n2 H2 σ2 ρ2)) k
  rt := fun v d n2 H2 s j r k => A.rt v d n2 H2 (E.base.trans s) j (r.mono (same_hid_sub fun a ha => List.mem_append_right _ ha)) k
  bk := fun L2 n2 H2 σ2 ρ2 E2 k => A.bk (L2 ++ L) n2 H2 σ2 ρ2 (E.back E2) k
  ct := fun L2 n2 H2 σ2 ρ2 E2 k => A.ct (L2 ++ L) n2 H2 σ2 ρ2 (E.back E2) k
end

/-! ### try .. except X as e -/
/-- behind a suite the error's name is gone -/
def outU (Ψ : Out) (i : Nat) : Out := { nx := fun n ρ => Ψ.nx n (ρ.set i .un), rt := Ψ.rt, bk := fun n ρ => Ψ.bk n (ρ.set i .un), ct := fun n ρ => Ψ.ct n (ρ.set i .un) }
/-- an error that is held: its dict -/
structure Held (c : Ctx) (dx : Addr) (ks : List (Str × D)) : Prop where
  at_ : ∃ fs, c.H0 dx = some (.xd fs) ∧ RpFs c.K (hid c.O c.H0) fs ks
  out : dx ∉ c.O
section
variable {c : Ctx} {ρ : List SD} {n i : Nat} {Ψ : Out} {cl : Value} {tb : WX → TS} {ts : Addr → Value → Option Addr → TS} {Wout : WX} {Ξ : Er}
/-- the reading of a try with one clause -/
def tTry (K : PySem.W.Frag) (cl : Value) (i : Nat) (ts : Addr → Value → Option Addr → TS) (Wout : WX) (tb : WX → TS) : TS := fun D σ H => tb (wAs K cl i ts Wout D) D σ H
theorem ps_try {X : Cx} {x nm : Str} {c : Value} {i : Nat} {body suite : List Stmt} {b₀ : Stmt} {np pos pos' : Pos} {tb : WX → TS} {ts : Addr → Value → Option Addr → TS} {Wout : WX} {K : PySem.W.Frag} (hs : X.stack = X.env :: X.outer) (hf : X.env.frame = some X.env.locals) (hN : X.N.Nodup) (hi : X.N[i]? = some nm) (hln : X.env.kindOf nm = some .local) (hc : Names X x c) (tk : Takes X Wout)
    (hb : ∀ (W : WX) (pn : List (Addr × Obj)) (xe : Value → Shared → Prop), Takes (X.tr pn xe) W → PassesOwn (model X.prog X.w) X.A X.env xe → PSs (X.tr pn xe) body (tb W))
    (hsu : ∀ (a : Addr) (oe : Obj) (cls : Value) (d : Option Addr) (pn : List (Addr × Obj)), Zc cls d oe → (∃ vs, oe.data = .fields vs) → PSs (X.suite a ((a, oe) :: pn)) (b₀ :: suite) (ts a cls d)) (hK : X.K = K := by rfl) :
    PS X (.Try body [.ExceptHandler (some (.Name x np)) (some nm) (b₀ :: suite) pos'] [] [] pos) (tTry K c i ts Wout tb) := hK ▸ ps_try_as hs hf hN hi hln hc tk hb hsu
theorem ws_try
    (hb : ∀ O' H0', ∀ W, XA { c with O := O', H0 := H0' } W Ξ → WS { c with O := O', H0 := H0' } (tb W) (ρ.map asd) n Ψ)
    (hs : ∀ n' ρ' C ks, Ξ n' ρ' C ks → PySem.W.exmOne c.K (.ref C) cl = some true ∧ ∀ O' H0' dx a, Held { c with O := O', H0 := H0' } dx ks → WS { c with O := O', H0 := H0' } (ts a (.ref C) (some dx)) ((ρ'.map asd).set i (.val (.adr a))) n' (outU Ψ i)) :
    WS c (tTry c.K cl i ts Wout tb) ρ n Ψ := fun P L σ H Dn E A => by
  refine hb (L ++ c.O) H _ ?_ (fun _ => none) [] σ H Dn E.re (A.re E)
  intro P2 L2 n2 H2 σ2 ρ2 C dx fs ks E2 hx hn hf kk
  obtain ⟨he, hh⟩ := hs n2 ρ2 C ks kk
  refine ⟨true, he, fun _ a ha => ?_, fun z => nomatch z⟩
  have E3 : Env c P (L2 ++ L) n2 H2 σ2 ρ2 := E.back E2
  have E4 := E3.re
  have eO : (L2 ++ L) ++ c.O = L2 ++ (L ++ c.O) := List.append_assoc _ _ _
  have hd : Held { c with O := (L2 ++ L) ++ c.O, H0 := H2 } dx ks := ⟨⟨fs, hx, by rw [eO]; exact hf⟩, by rw [eO]; exact hn⟩
  refine hh _ _ dx a hd (fun _ => none) [] _ H2 _ (E4.set i (.adr a)) ?_
  exact { nx := fun L5 n5 H5 σ5 ρ5 E5 k => A.nx _ n5 H5 _ _ ((E3.back E5).unset i) k,
          rt := fun v d n5 H5 s j r k => A.rt v d n5 H5 (E3.base.trans s) j (r.mono (same_hid_sub fun a ha => List.mem_append_right _ ha)) k,
          bk := fun L5 n5 H5 σ5 ρ5 E5 k => A.bk _ n5 H5 _ _ ((E3.back E5).unset i) k,
          ct := fun L5 n5 H5 σ5 ρ5 E5 k => A.ct _ n5 H5 _ _ ((E3.back E5).unset i) k }
/-- e.f in the suite -/
theorem we_xf {C a dx : Addr} {f : Str} {ks : List (Str × D)} {te : TE} {Φ : Nat → D → Prop} (hd : Held c dx ks) (h : WE c te ρ n fun n1 x => x = .adr a ∧ ∃ d, ks.lookup f = some d ∧ Φ n1 d) : WE c (tXf a (.ref C) (some dx) C f te) ρ n Φ := fun P L σ H Q E q => by
  refine h P L σ H _ E fun x d n1 H1 s1 j1 r1 ⟨e, d2, hl, k⟩ => ?_
  subst e
  cases r1
  have E1 := E.step s1 j1
  obtain ⟨⟨fs, h1, h2⟩, ho⟩ := hd
  obtain ⟨v, hv, rv⟩ := (h2.mono E1.old).look hl
  exact ⟨rfl, rfl, dx, fs, v, rfl, (hid_some.mp (E1.old dx _ (hid_some.mpr ⟨ho, h1⟩))).2, hv, q v d2 n1 H1 s1 j1 rv k⟩
end

/-! ### errors' __init__ -/
/-- what the text says of AskedError: its __init__ is ValueError's -/
structure AskC (K : PySem.W.Frag) (C0 : Addr) : Prop where
  rd : PySem.W.readsIn K C0 (.type "type") = true
  ga : PySem.W.specialIn K (.ref C0) "__getattribute__" = some (some (.builtin "type.__getattribute__"))
  at_ : PySem.W.findCls K (.ref C0) (.type "type") "__init__" = some (.val (.builtin "ValueError.__init__"))
theorem pe_askinit {X : Cx} {x : Str} {C0 : Addr} {e : Expr} {es : List Expr} {ta : TA} {p1 p2 pos : Pos} {pl : Sem Bool} (hg : Gl X x) (hm : X.mg x = some (.ref C0)) (k : AskC X.K C0) (ha : PA X (e :: es) ta)
    (hdb : (x == ("__debug__" : Str)) = false := by decide)
    (hc : eval (.Call (.Attribute (.Name x p1) "__init__" p2) (e :: es) [] pos) X.env = (do
      let ov ← eval (.Name x p1) X.env
      standAt p2.atName
      let (f, first) ← holding [ov] (getMethod ov "__init__" pl)
      callWith pos f first (backTo pos (starEach (e :: es) X.env)) (backToKw pos (keywordEach [] X.env))) := by rfl)
    (he : starEach (e :: es) X.env = (false, eval e X.env) :: starEach es X.env := by rfl) (hpl : (backTo pos (starEach es X.env)).any (·.1) = false := by rfl) :
    PE X (.Call (.Attribute (.Name x p1) "__init__" p2) (e :: es) [] pos) (tVeI X.K ta) := by
  refine ⟨fun pins s σ H Q I h => ?_⟩
  refine PySem.W.methodCall_KW (ld_glob I hg hm ?_ hdb) hc
  refine PySem.W.method_cls I.kIn k.ga (PySem.W.cls_value I.kIn k.rd k.at_ (by decide +kernel) ?_)
  show wpAny _ _ (callWith pos (Value.builtin "ValueError.__init__") [] (backTo pos (starEach (e :: es) X.env)) []) _ _ _
  refine PyProof.Rows.callWith_method1 (thn (ha.run pos pins _ σ H _ (I.tok _) h) fun us s1 ⟨vs, H1, I1, r1, a, C, ws, ev, hl, T, ea, q⟩ => ?_) he hpl
  subst ev
  cases r1 with
  | @cons _ u0 _ ur ra rw' =>
    obtain rfl : u0 = Value.ref a := ra
    have hlen : ur.length ≤ sizeLine := by
      rw [← Paired.length rw', sizeLine_eq]
      omega
    exact oinit_ok T I1 ea hlen fun s' J => ⟨.non, H1, J, rfl, q⟩
section
variable {P : Program} {w : World} {K : PySem.W.Frag} {mg : Str → Option Value} {base : Heap}
/-- an error's __init__ that says X.__init__(self, 'text') and keeps two arguments -/
theorem xi2_go {C : Addr} {f1 f2 : Str} {t : Str} (T : OexC K C) (n1 : PySem.W.findIn K (.ref C) f1 = some none) (n2 : PySem.W.findIn K (.ref C) f2 = some none) {vs : List V} {H : Hp} {Q : VK} {E : XK} {D : Ends} (h : spXI C [f1, f2] vs H Q E) (hD : ∀ σ H', Q .non H' → D.nx σ H') (r : List (Option V)) :
    tSeq (tDrop (tVeI K (tCons (tVar 0) (tCons (tC (.str t)) tNil)))) (tSeq (tOst K f1 (tVar 0) (tVar 1)) (tOst K f2 (tVar 0) (tVar 2))) D (vs.map some ++ r) H := by
  obtain ⟨a, ws, rfl, hl, ha, q⟩ := h
  match ws, hl with
  | [y1, y2], _ =>
    refine ⟨_, rfl, a, C, _, rfl, by simp, T, ha, ?_⟩
    refine ⟨_, rfl, _, rfl, a, C, rfl, T, n1, .inl ⟨ha, fun dx hn hne => ?_⟩⟩
    refine ⟨_, rfl, _, rfl, a, C, rfl, T, n2, .inr ⟨dx, [(f1, y1)], upd_same, by rw [upd_ne hne, upd_same], Nat.le_of_ble_eq_true rfl, ?_⟩⟩
    refine hD _ _ (q dx _ hn ?_ upd_same fun b hb hb2 => ?_)
    · rw [upd_ne (Ne.symm hne), upd_same]
    · rw [upd_ne hb2, upd_ne hb, upd_ne hb2]
theorem xi1_go {C : Addr} {f1 : Str} {t : Str} (T : OexC K C) (n1 : PySem.W.findIn K (.ref C) f1 = some none) {vs : List V} {H : Hp} {Q : VK} {E : XK} {D : Ends} (h : spXI C [f1] vs H Q E) (hD : ∀ σ H', Q .non H' → D.nx σ H') (r : List (Option V)) :
    tSeq (tDrop (tVeI K (tCons (tVar 0) (tCons (tC (.str t)) tNil)))) (tOst K f1 (tVar 0) (tVar 1)) D (vs.map some ++ r) H := by
  obtain ⟨a, ws, rfl, hl, ha, q⟩ := h
  match ws, hl with
  | [y1], _ =>
    refine ⟨_, rfl, a, C, _, rfl, by simp, T, ha, ?_⟩
    refine ⟨_, rfl, _, rfl, a, C, rfl, T, n1, .inl ⟨ha, fun dx hn hne => ?_⟩⟩
    refine hD _ _ (q dx _ hn upd_same ?_ fun b hb hb2 => ?_)
    · rw [upd_ne hne, upd_same]
      rfl
    · rw [upd_ne hb, upd_ne hb2]
end
/-! ### own lists: x = y.pop() -/
section
variable {X : Cx} {K : PySem.W.Frag}
theorem x_bm0 {o : Expr} {to : TE} {name : Str} {apos cpos : Pos} {T : String} {r : V → List V → Hp → VK → Prop} (h : PE X (.Call (.Attribute o name apos) [] [] cpos) (tBM0 X.K T r to)) (hK : X.K = K := by rfl) : PE X (.Call (.Attribute o name apos) [] [] cpos) (tBM0 K T r to) := hK ▸ h
end
theorem ws_popSet {c : Ctx} {ρ : List SD} {n : Nat} {Ψ : Out} {i j : Nat} {es : List D} {y : D} (h1 : ρ[j]? = some (.own es)) (hy : es[es.length - 1]? = some y) (k : Ψ.nx n ((ρ.set j (.own es.dropLast)).set i (.val y))) :
    WS c (tAsg (tBM0 c.K "list" rPop (tVar j)) (gName i)) ρ n Ψ := fun P L σ H Dn E A => by
  obtain ⟨m, ys, b1, b2, b3, b4⟩ := E.own_at h1
  obtain ⟨u, hu, ru⟩ := b3.get' hy
  refine ⟨.ref m, b1, .inl ⟨rfl, ys, .inl (.inl b2)⟩, m, ys, u, rfl, rfl, b2, by rw [b3.length]; exact hu, ?_⟩
  have hd : RpAll c.K (hid (L ++ c.O) H) ys.dropLast es.dropLast := by
    rw [List.dropLast_eq_take, List.dropLast_eq_take, b3.length]
    exact b3.take _
  have E2 := (b4 ys.dropLast es.dropLast hd).1
  obtain ⟨m'', ys'', f1, f2, f3, f4⟩ := E.pers'.own_at h1
  rw [b1] at f1
  cases f1
  have E2p := (f4 ys.dropLast es.dropLast hd).1.pers
  exact A.nx L n _ _ _ (E2.set i (ru.mono E2p)) k

/-! ### as callers see them -/
/-- a def that may raise -/
structure Dx (P : Program) (w : World) (K : PySem.W.Frag) (mg : Str → Option Value) (base : Heap) (x : Str) (k : Nat) (ps : List Str) (S : L3.SpecX) where
  f : Addr
  fd : FuncData
  G : FnOk P w K mg base (L2.CX P w) k f fd ps (spDX K S)
  m : mg x = some (.ref f)
  k : PySem.W.keepIn K (.ref f) = true
  b : Binds K fd ps []
/-- a method that may raise -/
structure Mx (P : Program) (w : World) (K : PySem.W.Frag) (mg : Str → Option Value) (base : Heap) (C : Addr) (x : Str) (k : Nat) (ps : List Str) (S : L3.SpecX) where
  f : Addr
  fd : FuncData
  cl : Cls K C
  me : Meth K C x f
  G : FnOk P w K mg base (L2.CX P w) k f fd ps (spDX K S)
  b : Binds K fd ps []
/-- an own error: X.__init__ keeps its arguments as the fields fs -/
structure Xn (P : Program) (w : World) (K : PySem.W.Frag) (mg : Str → Option Value) (base : Heap) (x : Str) (fs : List Str) where
  C : Addr
  fI : Addr
  fd : FuncData
  ps : List Str
  T : OexC K C
  iC : PySem.W.findIn K (.ref C) "__init__" = some (some (.ref fI))
  tI : PySem.W.typeIn K (.ref fI) = some (.type "function")
  G : FnOk P w K mg base CX0 1 fI fd ps (spXI C fs)
  b : Binds K fd ps []
  m : mg x = some (.ref C)
  xf : XfC K C
  no : ∀ f ∈ fs, PySem.W.findIn K (.ref C) f = some none
  te : PySem.W.exmOne K (.ref C) (.ref C) = some true
theorem exm_self {K : PySem.W.Frag} {S : Addr} (h1 : PySem.W.subIn K (.ref S) (.type "BaseException") = some true) (h2 : PySem.W.isClsIn K S = true) (h3 : PySem.W.typeIn K (.ref S) = some (.type "type")) (h4 : PySem.W.subIn K (.ref S) (.ref S) = some true) :
    PySem.W.exmOne K (.ref S) (.ref S) = some true := by
  have e1 : (PySem.W.subIn K (.ref S) (.type "BaseException") == some true) = true := by rw [h1] <;> rfl
  have e2 : ((PySem.W.clsIn K S).isSome && PySem.W.typeIn K (.ref S) == some (.type "type")) = true := by
    have h2' : (PySem.W.clsIn K S).isSome = true := h2
    rw [h2', h3] <;> rfl
  show (if (PySem.W.subIn K (.ref S) (.type "BaseException") == some true) = true then (if ((PySem.W.clsIn K S).isSome && PySem.W.typeIn K (.ref S) == some (.type "type")) = true then PySem.W.subIn K (.ref S) (.ref S) else none) else none) = some true
  rw [if_pos e1, if_pos e2]
  exact h4
end L3
/-! L4a: unpacked lists, own ==, __init__ that may raise, a second bag, is of bools. -/
namespace PySem
namespace UnL
open PyProof.Rows PySem.Spec
section
variable {prog : Program} {w : World} {A : Around} {E : Value → Shared → Prop} {s : Shared}
theorem draw_list {it l : Addr} {items : Array Value} (hne : l ≠ it) : ∀ (n i : Nat) (s : Shared) (Q : List Value → Shared → Prop), s.heap.IsListIter it l i → s.heap.IsList l items → i + n ≤ items.size →
    (∀ h', h'.IsListIter it l (i + n) → Heap.SameBut it s.heap h' → Q ((items.toList.drop i).take n) { s with heap := h' }) → wpAny (model prog w) A (draw (.ref it) n) Q E s
  | 0, i, s, Q, hit, _, _, hQ => by
    show wpAny _ _ (pure []) Q E s
    exact wpAny_pure (by simpa using hQ s.heap hit (Heap.SameBut.refl ..))
  | n + 1, i, s, Q, hit, ht, hle, hQ => by
    have hlt : i < items.size := by omega
    show wpAny _ _ (pyNext (.ref it) >>= _) Q E s
    refine wpAny_bind (wpAny_pyNext_list_item hit ht (x := items[i]) (by simp [hlt]) fun h₁ hit₁ hs₁ => ?_)
    refine wpAny_bind (wpAny_holding (draw_list hne n (i + 1) _ _ hit₁ (ht.extBut hs₁.extBut hne) (by omega) fun h₂ hit₂ hs₂ => wpAny_pure ?_))
    have hd : items.toList.drop i = items[i] :: items.toList.drop (i + 1) := by simp [List.drop_eq_getElem_cons, hlt]
    have := hQ h₂ (by rw [show i + (n + 1) = i + 1 + n by omega]; exact hit₂) (hs₁.trans hs₂)
    rw [hd, List.take_succ_cons] at this
    exact this
theorem unpackItems_list {l : Addr} {items : Array Value} {Q : List Value → Shared → Prop} (hh : A.handled = none) (ht : s.heap.IsList l items)
    (hQ : ∀ h', Heap.ExtBut s.heap.objs.size s.heap h' → Q items.toList { s with heap := h' }) : wpAny (model prog w) A (unpackItems (.ref l) items.size none) Q E s := by
  have hlt : l ≠ s.heap.objs.size := by obtain ⟨o, ho, _⟩ := ht; exact Nat.ne_of_lt (Heap.lt_size ho)
  unfold unpackItems
  refine wpAny_bind ?_
  · unfold notIterableAtAll
    refine wpAny_bind (wpAny_specialOf ht.typeIs F.slot_list_iter.lookup ?_)
    refine wpAny_pure ?_
    simp only [Bool.false_eq_true, if_false]
    refine wpAny_bind (wpAny_holding (wpAny_pyIter_list ht ?_))
    refine wpAny_bind (wpAny_holding (draw_list hlt items.size 0 _ _ ⟨_, Heap.get?_push_size _ rfl, rfl, rfl⟩ (ht.push _) (by omega) fun h₁ hit₁ hs₁ => ?_))
    have hall : List.take items.size (List.drop 0 items.toList) = items.toList := by
      rw [List.drop_zero]; exact List.take_of_length_le (by simp)
    rw [hall]
    rw [if_neg (by simp)]
    have ht₁ : h₁.IsList l items := (ht.push _).extBut hs₁.extBut hlt
    refine wpAny_bind (wpAny_holding (wpAny_pyNext_list_end hh hit₁ ht₁ (by simp) fun h₂ he₂ => ?_))
    simp only [Option.isSome_none, Bool.false_eq_true, if_false]
    refine wpAny_pure (hQ h₂ fun b o hb e => he₂ b o hb (hs₁.extBut b o hb (Heap.get?_push_of_some _ e)))
theorem assign_Tuple_list {env : Env} {elts : List Expr} {x1} {pos : Pos} {l : Addr} {items : Array Value} {Q : Unit → Shared → Prop} (hh : A.handled = none) (ht : s.heap.IsList l items)
    (hn : (assignEach elts env).length = items.size) (hstar : (assignEach elts env).findIdx? (·.1) = none)
    (h : ∀ h', Heap.ExtBut s.heap.objs.size s.heap h' → wpAny (model prog w) A (assignInOrder ((assignEach elts env).map (·.2)) items.toList) Q E { s with heap := h' }) :
    wpAny (model prog w) A (assign (.Tuple elts x1 pos) env (.ref l)) Q E s := by
  rw [assign_Tuple]
  refine wpAny_bind (wpAny_standAt ?_)
  unfold unpack
  rw [hn, hstar]
  exact wpAny_bind (wpAny_holding (unpackItems_list hh ht h))
end
end UnL
end PySem
namespace L3
open PySem L2
/-! ### (a, b, ..) = a tuple or a list -/
def gSeqU (K : PySem.W.Frag) (n : Nat) (t : TGs) : TG := fun v σ H Q => ∃ a xs, v = .ref a ∧ (SqT K H a xs ∨ SqL K H a xs) ∧ xs.length = n ∧ t xs σ H Q
theorem pg_seqU {X : Cx} {es : List Expr} {k : Nat} {t : TGs} {n : Nat} {pos : Pos} {K : PySem.W.Frag} (hc : X.calm = true) (h : PGs X es t) (hK : X.K = K := by rfl)
    (hn : (assignEach es X.env).length = n := by rfl) (hst : (assignEach es X.env).findIdx? (·.1) = none := by rfl) : PG X (.Tuple es k pos) (gSeqU K n t) := by
  subst hK
  refine ⟨fun pins s σ H v u Q I r hw => ?_⟩
  obtain ⟨a, xs, e1, hq, hl, hw⟩ := hw
  subst e1
  cases r
  rcases hq with hq | hq
  · obtain ⟨its, rv, ht, hz⟩ := I.tuple hq
    refine PyProof.Rows.assign_Tuple_tuple (I.ok.hd hc) ht (by simp [hn, ← hl, rv.length]) hst fun h' hx => ?_
    have I1 : Inv X pins σ H { s with heap := h' } := I.kept (t' := s.toks) fun b o e => hx b o (Nat.ne_of_lt (Heap.lt_size e)) e
    exact h.run pins _ σ H xs _ Q I1 (by simpa using rv) hw
  · obtain ⟨its, rv, ht, hz⟩ := I.list hq
    refine PySem.UnL.assign_Tuple_list (I.ok.hd hc) ht.isList (by simp [hn, ← hl, rv.length]) hst fun h' hx => ?_
    have I1 : Inv X pins σ H { s with heap := h' } := I.kept (t' := s.toks) fun b o e => hx b o (Nat.ne_of_lt (Heap.lt_size e)) e
    exact h.run pins _ σ H xs _ Q I1 (by simpa using rv) hw
theorem wg_seqU {c : Ctx} {ρ : List SD} {n : Nat} {R : ER → ER → Prop} {m : Nat} {gs : TGs} {d : D} {ds : List D} {Φ : List SD → Prop} (hs : seqD d = some ds) (hl : ds.length = m) (h : WGs c R gs ds ρ n Φ) : WG c R (gSeqU c.K m gs) d ρ n Φ := fun P L σ H v Q E r q => by
  cases d with
  | tup xs =>
    cases hs
    cases r with
    | tup hs ha => exact ⟨_, _, rfl, .inl (same_t same_hid hs), by rw [ha.length]; exact hl, h P L σ H _ Q E ha q⟩
  | lst xs =>
    cases hs
    cases r with
    | lst hs ha => exact ⟨_, _, rfl, .inr (.inl (same_rd same_hid hs)), by rw [ha.length]; exact hl, h P L σ H _ Q E ha q⟩
  | _ => cases hs
end L3
/-! ### == and != of instances by their own __eq__ -/
namespace OwnNe
open PySem PySem.Spec PyProof.Rows PySem.SeqAt
section
variable {M : Model} {prog : Program} {w : World} {A : Around} {E : Value → Shared → Prop} {s : Shared} {K : PySem.W.Frag} {x C f : Addr} {ox : Obj} {od : Option Obj} {b : Value}
theorem ifBound_objNe {args : List Value} {Q : Option Value → Shared → Prop} (X : K.In s.heap) (I : PySem.W.InstAt s.heap x ox C od) (hs : PySem.W.findIn K (.ref C) "__ne__" = some (some (.builtin "object.__ne__")))
    (h : wpAny M A (call (.builtin "object.__ne__") (.ref x :: args)) (fun v => Q (some v)) E s) : wpAny M A (callSpecialIfBound? (.ref x) "__ne__" args) Q E s := by
  simp only [callSpecialIfBound?, bindSpecialIfBound?]
  refine wpAny_holding (wpAny_bind (wpAny_bind (wpAny_bind (I.type.here ((PySem.W.looks_findIn X hs).here ?_)))))
  refine wpAny_bind (wpAny_askSetting (wpAny_ite ?_))
  have fin : wpAny M A (call (.builtin "object.__ne__") ([.ref x] ++ args) >>= fun v => pure (some v)) Q E s := wpAny_bind (wpAny_mono h (fun v s' h' => wpAny_pure h') fun _ _ h' => h')
  split
  · exact wpAny_bind (wpAny_of_eq (F.cmp_object.ne.bind _) (wpAny_pure (by exact fin)))
  · exact wpAny_tryCatch (wpAny_bind (wpAny_of_eq (F.cmp_object.ne.bind _) (wpAny_pure (by exact fin))))
theorem objNe_entry {Q : Fin → Shared → Prop} (hu : A.units < cLine)
    (hcall : wpAny (model prog w) A (callSpecialIfBound? (.ref x) "__eq__" [b]) (fun r s' => ∃ k, r = some (.bool k) ∧ Q (.done (.ret (.bool (!k)))) s') E s) :
    wpAny (model prog w) A (Builtin.«object.__ne__» ⟨[.ref x, b], []⟩) Q E s := by
  unfold Builtin.«object.__ne__»
  repeat (first
    | with_reducible refine wpAny_cRoomFor hu ?_
    | (refine wpAny_bind (m := callSpecialIfBound? (.ref x) (Str.ofString "__eq__") [b])
        (wpAny_mono hcall (fun r s' hr => by
          obtain ⟨k, rfl, hq⟩ := hr
          repeat (first | exact hq | exact wpAny_pure hq | exact wpAny_truthy_bool hq | (refine wpAny_bind (m := truthy (.bool _)) (wpAny_truthy_bool ?_)) | wp_step)) fun _ _ e => e))
    | wp_step)
theorem ne_K {y : Addr} {Q : Value → Shared → Prop} (hu : A.units + 1 < cLine) (X : K.In s.heap) (I : PySem.W.InstAt s.heap x ox C od) (hb : PySem.W.Looks (model prog w) s.heap (typeOf (.ref y)) (.ref C)) (hm : PySem.W.mroIn K C (.type "object") = some true)
    (hs : PySem.W.findIn K (.ref C) "__ne__" = some (some (.builtin "object.__ne__"))) (he : PySem.W.findIn K (.ref C) "__eq__" = some (some (.ref f))) (hf : PySem.W.isFn K (.ref f) = true)
    (h : wpAny (model prog w) A.in1 (call (.ref f) [.ref x, .ref y]) (fun v s' => ∃ k, v = .bool k ∧ Q (.bool (!k)) s') E s) : wpAny (model prog w) A (richCompare .NotEq (.ref x) (.ref y)) Q E s := by
  have one : wpAny (model prog w) A (tryCompare (.ref x) "__ne__" (.ref y)) (fun r s' => ∃ v, r = some v ∧ Q v s') E s := by
    unfold tryCompare
    refine wpAny_bind (ifBound_objNe X I hs (wpAny_call (codeAny_call_builtin F.cmp_object.ne.plain F.cmpEntry_ne (PySem.W.check_slot F.cmpKind_ne F.cmpSplit_ne (I.type.andThen (PySem.W.looks_mroIn X hm)) (F.cmpArgs_ne _ _)
      (objNe_entry (A := A.in1) hu (PySem.W.ifBound_K X I he hf (wpAny_mono h (fun v s' hv => ?_) fun _ _ e => e)))))))
    obtain ⟨k, rfl, hq⟩ := hv
    exact ⟨k, rfl, wpAny_pure ⟨_, rfl, hq⟩⟩
  unfold richCompare
  simp only [oneThing_ref]
  refine wpAny_holding (wpAny_bind (wpAny_cRoomFor (by omega) ?_))
  refine wpAny_bind (I.type.here (wpAny_bind (hb.here ?_)))
  rw [cmpInfo_NotEq]
  dsimp only
  rw [show (Value.ref C != Value.ref C) = false from by simp]
  simp only [Bool.false_eq_true, if_false]
  refine wpAny_bind (wpAny_pure ?_)
  simp only [Bool.false_eq_true, if_false]
  refine wpAny_bind (wpAny_mono one (fun r s' z => ?_) fun _ _ e => e)
  obtain ⟨v, rfl, hq⟩ := z
  exact wpAny_pure hq
end
end OwnNe
namespace L3
open PySem L2
section
variable {X : Cx} {CX : CXT} {n : Nat} {C f : Addr} {fd : FuncData} {ps : List Str} {sp : Sp} {E : XK} {K : PySem.W.Frag}
/-- what the text says of a class with its own == -/
structure OwnEqT (K : PySem.W.Frag) (C f : Addr) : Prop where
  eq : PySem.W.findIn K (.ref C) "__eq__" = some (some (.ref f))
  fn : PySem.W.isFn K (.ref f) = true
  ne : PySem.W.findIn K (.ref C) "__ne__" = some (some (.builtin "object.__ne__"))
  mro : PySem.W.mroIn K C (.type "object") = some true
/-- x == y (neg: x != y), both instances of the class at C -/
def rOwn (C : Addr) (sp : Sp) (E : XK) (neg : Bool) : R2 := fun x y H Q => ∃ a b dx dy fs gs, x = .ref a ∧ y = .ref b ∧ H a = some (.ins C dx fs) ∧ H b = some (.ins C dy gs) ∧
  sp [.ref a, .ref b] H (fun v H' => ∃ k, v = .bl k ∧ Q (.bl (if neg then !k else k)) H') E
theorem own_run {A : Around} {pins : List (Addr × Obj)} {σ : L2.St} {H : Hp} {s : Shared} {a b : Addr} {Q : VK} (F : FnOk X.prog X.w X.K X.mg X.base CX n f fd ps sp) (hr : Room n A) (hfr : A.frames = X.A.frames) (hb : Binds X.K fd ps []) (hx : Passes CX X E) (I : Inv X pins σ H s) (h : sp [.ref a, .ref b] H Q E) :
    wpAny (model X.prog X.w) A (call (.ref f) [.ref a, .ref b]) (EP X pins σ Q) X.xe s := by
  have e0 : Env0 X.prog X.w X.K X.mg X.base A X.stack s H := by
    have e := I.env0
    exact ⟨by rw [hfr]; exact e.frames, e.mod, e.bs, e.bsz, e.funs, e.frf, e.hok, e.bare⟩
  have hl := F.len _ _ _ _ h
  have r2 : Vals [V.ref a, V.ref b] [Value.ref a, Value.ref b] := .cons rfl (.cons rfl .nil)
  refine wpAny_call (codeAny_mono (F.run A X.stack s H ⟨[.ref a, .ref b], []⟩ [.ref a, .ref b] [.ref a, .ref b] _ E hr e0 (by
    have := hb s [.ref a, .ref b] I.kIn (by simpa using hl)
    simpa using this) r2 h) fun r s' hq => ?_)
  cases r with
  | error e => exact hx pins σ H s e s' I hq
  | ok fl =>
    cases fl with
    | ret w => exact I.after hq
    | next => exact False.elim hq
    | brk => exact False.elim hq
    | cont => exact False.elim hq
theorem op_ownEq (F : FnOk X.prog X.w X.K X.mg X.base CX n f fd ps sp) (T : OwnEqT X.K C f) (hr : Room n X.A) (hb : Binds X.K fd ps []) (hx : Passes CX X E) : OpR X (compareOp .Eq) (rOwn C sp E false) := by
  intro pins s σ H x y v u Q I rx ry hq
  obtain ⟨a, b, dx, dy, fs, gs, rfl, rfl, ha, hb', h⟩ := hq
  cases rx
  cases ry
  obtain ⟨mA, J, _⟩ := ins_get I.hok ha
  obtain ⟨mB, J', _⟩ := ins_get I.hok hb'
  obtain ⟨od, J, _⟩ := J.look
  obtain ⟨od', J', _⟩ := J'.look
  obtain ⟨m, hF⟩ := I.fr
  show wpAny (model X.prog X.w) X.A (richCompare .Eq (.ref a) (.ref b)) (EP X pins σ Q) X.xe s
  refine PySem.W.cmp_K (op := .Eq) (tb := .ref C) hr.units0 hF I.ok.mod.kin J J'.type (by simp [PySem.W.notFirst]) T.eq T.fn (wpAny_mono (own_run F hr rfl hb hx I h) (fun r s' z => ?_) fun _ _ e => e)
  obtain ⟨v, H', I', rv, k, ek, q⟩ := z
  subst ek
  cases rv
  exact ⟨.bl k, H', I', rfl, q⟩
theorem op_ownNe (F : FnOk X.prog X.w X.K X.mg X.base CX n f fd ps sp) (T : OwnEqT X.K C f) (hr : Room (n + 1) X.A) (hb : Binds X.K fd ps []) (hx : Passes CX X E) : OpR X (compareOp .NotEq) (rOwn C sp E true) := by
  intro pins s σ H x y v u Q I rx ry hq
  obtain ⟨a, b, dx, dy, fs, gs, rfl, rfl, ha, hb', h⟩ := hq
  cases rx
  cases ry
  obtain ⟨mA, J, _⟩ := ins_get I.hok ha
  obtain ⟨mB, J', _⟩ := ins_get I.hok hb'
  obtain ⟨od, J, _⟩ := J.look
  obtain ⟨od', J', _⟩ := J'.look
  show wpAny (model X.prog X.w) X.A (richCompare .NotEq (.ref a) (.ref b)) (EP X pins σ Q) X.xe s
  refine OwnNe.ne_K (by have := hr.un; omega) I.kIn J J'.type T.mro T.ne T.eq T.fn (wpAny_mono (own_run F hr.in1 rfl hb hx I h) (fun r s' z => ?_) fun _ _ e => e)
  obtain ⟨v, H', I', rv, k, ek, q⟩ := z
  subst ek
  cases rv
  exact ⟨k, rfl, .bl (!k), H', I', rfl, q⟩
end
section
variable {K : PySem.W.Frag} {C : Addr} {S : L3.Spec} {E : XK} {neg : Bool} {Φ : D → Prop}
theorem r2_own {ks ls : List (Str × D)} (h : S none 0 [.obj C ks, .obj C ls] fun _ r => ∃ b, r = .bl b ∧ Φ (.bl (if neg then !b else b))) : R2D K (rOwn C (spD K S) E neg) (.obj C ks) (.obj C ls) Φ := fun O H x y Q rx ry no q => by
  cases rx with
  | obj h1 f1 =>
    cases ry with
    | obj h2 f2 =>
      refine ⟨_, _, _, _, _, _, rfl, rfl, (hid_some.mp h1).2, (hid_some.mp h2).2, O, none, 0, _, _, (fun b q e => nomatch e), (fun o ho e => no o e ho), .cons (.obj h1 f1) (.cons (.obj h2 f2) .nil), h, fun v d n' H' s j r ⟨b, e, k⟩ => ?_⟩
      subst e
      cases r
      have s' : Same H H' := by
        have z : Same (hid [] H) (hid [] H') := s
        rw [hid_nil, hid_nil] at z
        exact z
      exact ⟨b, rfl, q _ _ H' s' (.bl _) k⟩
theorem r2_isB {a b : Bool} (k : Φ (.bl (decide (a = b)))) : R2D K L2.rIsB (.bl a) (.bl b) Φ := fun O H x y Q rx ry _ q => by
  cases rx; cases ry
  exact ⟨a, b, rfl, rfl, q _ _ H (Same.refl _) (.bl _) k⟩
end
/-! ### makes and methods where what is raised is wished for at the caller's slots -/
def tMakeSD (C : Addr) (sp : Sp) (dvs : List V) (E : L2.St → XK) (t : TA) : TE := fun σ H Q => t σ H fun vs H1 => ∀ x dx, H1 x = none → H1 dx = none → dx ≠ x →
  sp (.ref x :: (vs ++ dvs)) (upd (upd H1 dx (.own x)) x (.ins C dx [])) (fun v H2 => v = .non ∧ Q (.ref x) H2) (E σ)
def tMethSD (C : Addr) (m : Str) (sp : Sp) (dvs : List V) (E : L2.St → XK) (ta : TE) (t : TA) : TE := fun σ H Q => ta σ H fun x H1 => ∃ a dx fs, x = .ref a ∧ H1 a = some (.ins C dx fs) ∧ fs.lookup m = none ∧
  t σ H1 fun vs H2 => sp (x :: (vs ++ dvs)) H2 Q (E σ)
section
open PyProof.Rows PySem.Spec
variable {X : Cx} {CX : CXT} {k : Nat} {C f : Addr} {fd : FuncData} {ps : List Str} {sp : Sp} {dvs : List V} {ds : List Value} {E : L2.St → XK} {x m : Str} {p pos apos : Pos} {o e : Expr} {es : List Expr} {t : TA} {ta : TE} {pl : Sem Bool}
/-- what goes out of __init__ is wished for where the instance stands by -/
def PassesMk (CX : CXT) (X : Cx) (σ : L2.St) (E : XK) : Prop := PassesAt CX X σ E
theorem pe_makeSD (M : Mk X.K C f) (F : FnOk X.prog X.w X.K X.mg X.base CX k f fd ps sp) (hr : Room (k + 1) X.A) (hg : Gl X x) (hm : X.mg x = some (.ref C)) (hb : Binds X.K fd ps ds) (hd : Vals dvs ds) (hx : ∀ σ, PassesAt CX X σ (E σ))
    (ha : PA X (e :: es) t) (hdb : (x == ("__debug__" : Str)) = false := by decide) (he : starEach (e :: es) X.env = (false, eval e X.env) :: starEach es X.env := by rfl) (hpl : (backTo pos (starEach es X.env)).any (·.1) = false := by rfl) :
    PE X (.Call (.Name x p) (e :: es) [] pos) (tMakeSD C sp dvs E t) := by
  refine ⟨fun pins s σ H Q I h => ?_⟩
  refine wpAny_Call_Name_kw (ld_glob I hg hm ?_ hdb)
  refine PySem.W.callWith_K (h₀ := X.base) I.ok.mod.kin M.kp (thn (ha.run pos pins s σ H _ I h) fun us s1 ⟨vs, H1, I1, r, q⟩ => ⟨I1.kIn, ?_⟩) he hpl
  have hq := q (s1.heap.objs.size + 1) s1.heap.objs.size (I1.hok.fresh (Nat.le_succ _)) (I1.hok.fresh (Nat.le_refl _)) (Nat.ne_of_lt (Nat.lt_succ_self _))
  have I2 := Inv.made (C := C) I1
  have r2 : Vals (V.ref (s1.heap.objs.size + 1) :: (vs ++ dvs)) (Value.ref (s1.heap.objs.size + 1) :: (us ++ ds)) := .cons rfl (r.append hd)
  have hl : (Value.ref (s1.heap.objs.size + 1) :: us ++ ds).length = ps.length := by
    have e := r2.length
    rw [F.len _ _ _ _ hq] at e
    exact e.symm
  show wpAny _ _ (call (.ref C) us) _ _ _
  refine wpAny_call (make_map (f := f) I1.kIn M.makes M.init (beq_iff_eq.mp M.fn) (codeAny_mono (F.run _ X.stack _ _ ⟨Value.ref (s1.heap.objs.size + 1) :: us, []⟩ (Value.ref (s1.heap.objs.size + 1) :: (us ++ ds)) _ _ (E σ) (hr.make C us [])
    (I2.env0.make C us []) (hb _ (Value.ref (s1.heap.objs.size + 1) :: us) I2.kIn hl) r2 hq) fun r s' hq' => ?_))
  cases r with
  | error e => exact hx σ pins _ _ e s' I2 hq'
  | ok fl =>
    cases fl with
    | ret u =>
      obtain ⟨v, H', I3, rv, ev, q3⟩ := I2.after hq'
      subst ev
      exact ⟨rv, ⟨V.ref (s1.heap.objs.size + 1), H', I3, rfl, q3⟩⟩
    | next => exact False.elim hq'
    | brk => exact False.elim hq'
    | cont => exact False.elim hq'
theorem pe_methSD (he : PE X o ta) (c : Cls X.K C) (hm : Meth X.K C m f) (F : FnOk X.prog X.w X.K X.mg X.base CX k f fd ps sp) (hr : Room k X.A) (hb : Binds X.K fd ps ds) (hd : Vals dvs ds) (hx : ∀ σ, PassesAt CX X σ (E σ)) (ha : PA X (e :: es) t)
    (hst : starEach (e :: es) X.env = (false, eval e X.env) :: starEach es X.env := by rfl) (hpl : (backTo pos (starEach es X.env)).any (·.1) = false := by rfl)
    (ht : eval (.Call (.Attribute o m apos) (e :: es) [] pos) X.env = (do
      let ov ← eval o X.env
      standAt apos.atName
      let (f, first) ← holding [ov] (getMethod ov m pl)
      callWith pos f first (backTo pos (starEach (e :: es) X.env)) (backToKw pos (keywordEach [] X.env))) := by rfl) :
    PE X (.Call (.Attribute o m apos) (e :: es) [] pos) (tMethSD C m sp dvs E ta t) := by
  refine ⟨fun pins s σ H Q I h => ?_⟩
  refine PySem.W.methodCall_KW (pl := pl) (thn (he.run pins s σ H _ I h) fun u s1 ⟨x, H1, I1, rx, a, dx, fs, ex, ea, l, q⟩ => ?_) ht
  subst ex
  obtain rfl : u = Value.ref a := rx
  refine getmeth_ok I1 ea c hm l ?_
  refine PySem.W.callWith_K (first := [.ref a]) (h₀ := X.base) I.ok.mod.kin hm.kp (thn (ha.run pos pins s1 σ H1 _ I1 q) fun us s2 ⟨vs, H2, I2, r, q2⟩ => ⟨I2.kIn, ?_⟩) hst hpl
  exact run_fnSD (us := .ref a :: us) (vs := .ref a :: vs) F hr hb hd (hx σ) I2 (.cons rfl r) q2
end
end L3
/-! L4b: __init__ that may raise, made; a second bag; wide powers. -/
namespace L3
open PySem L2
abbrev SpecIX := Option (Addr × Addr) → Nat → List D → (Nat → List (Str × D) → Prop) → (Nat → Addr → List (Str × D) → Prop) → Prop
def spIX (K : PySem.W.Frag) (C : Addr) (S : SpecIX) : Sp := fun vs H Q E => ∃ (O : List Addr) (bag : Option (Addr × Addr)) (n : Nat) (ds : List D) (Φ : Nat → List (Str × D) → Prop) (Ξ : Nat → Addr → List (Str × D) → Prop) (p dx : Addr) (ws : List V),
  vs = .ref p :: ws ∧ H p = some (.ins C dx []) ∧ p ∉ O ∧ (∀ b q, bag = some (b, q) → BagOk b q n H ∧ b ∈ O ∧ q ∈ O ∧ q ≠ b) ∧ (∀ o ∈ O, H o ≠ none) ∧ RpAll K (hid (p :: O) H) ws ds ∧ S bag n ds Φ Ξ ∧
  (∀ fs ks n' H', Same (hid (p :: bagB bag) H) (hid (p :: bagB bag) H') → (∀ b q, bag = some (b, q) → BagOk b q n' H') → H' p = some (.ins C dx fs) → RpFs K (hid (p :: O) H') fs ks → Φ n' ks → Q .non H') ∧
  ∀ C' ex fs ks n' H', Same (hid (p :: bagB bag) H) (hid (p :: bagB bag) H') → (∀ b q, bag = some (b, q) → BagOk b q n' H') → H' ex = some (.xd fs) → ex ∉ p :: O → RpFs K (hid (p :: O) H') fs ks → Ξ n' C' ks → E (.ref C') (some ex) H'
section
variable {P : Program} {w : World} {K : PySem.W.Frag} {mg : Str → Option Value} {base : Heap} {O : List Addr} {bag : Option (Addr × Addr)} {p C dx : Addr} {H00 : Hp} {ρ : List SD} {n : Nat} {ks : List (Str × D)} {Φ : Nat → List (Str × D) → Prop} {te : TE} {ts us : TS} {f : Str}
/-- as WN, at heaps that are behind H00 -/
def WNX (P : Program) (w : World) (K : PySem.W.Frag) (O : List Addr) (bag : Option (Addr × Addr)) (p C dx : Addr) (H00 : Hp) (ts : TS) (ρ : List SD) (n : Nat) (ks : List (Str × D)) (Φ : Nat → List (Str × D) → Prop) : Prop :=
  ∀ (H : Hp) (σ : List (Option V)) (fs : List (Str × V)) (Dn : Ends), Same (hid (p :: bagB bag) H00) (hid (p :: bagB bag) H) → H p = some (.ins C dx fs) → p ∉ O → RpFs K (hid (p :: O) H) fs ks → Env ⟨P, w, K, p :: O, bag, H⟩ (fun _ => none) [] n H σ ρ →
  (∀ σ' fs' ks' n' H', Same (hid (p :: bagB bag) H) (hid (p :: bagB bag) H') → (∀ b q, bag = some (b, q) → BagOk b q n' H') → H' p = some (.ins C dx fs') → RpFs K (hid (p :: O) H') fs' ks' → Φ n' ks' → Dn.nx σ' H') → ts Dn σ H
theorem wnx_of (h : WN P w K O bag p C dx ts ρ n ks Φ) : WNX P w K O bag p C dx H00 ts ρ n ks Φ := fun H σ fs Dn _ hp pO hf E q => h H σ fs Dn hp pO hf E q
theorem wnx_pre (h : ∀ H0, Same (hid (p :: bagB bag) H00) (hid (p :: bagB bag) H0) → WS ⟨P, w, K, p :: O, bag, H0⟩ ts ρ n { nx := fun n1 ρ1 => flat ρ1 = true ∧ WNX P w K O bag p C dx H00 us ρ1 n1 ks Φ, rt := fun _ _ => False }) : WNX P w K O bag p C dx H00 (tSeq ts us) ρ n ks Φ := fun H σ fs Dn h00 hp pO hf E q => by
  refine h H h00 (fun _ => none) [] σ H { Dn with nx := us Dn } E { nx := fun L n1 H1 σ1 ρ1 E1 ⟨hfl, hn⟩ => ?_, rt := fun _ _ _ _ _ _ _ h => h.elim, bk := fun _ _ _ _ _ _ h => h.elim, ct := fun _ _ _ _ _ _ h => h.elim }
  have pB : p ∉ bagB bag := fun z => by
    obtain ⟨q, hq⟩ := (mem_B (c := ⟨P, w, K, p :: O, bag, H⟩)).mp z
    obtain ⟨xs, hx⟩ := (E.bag p q hq).lst
    rw [hp] at hx; cases hx
  have hp1 : H1 p = some (.ins C dx fs) := (hid_some.mp (E1.base p _ (hid_some.mpr ⟨pB, hp⟩))).2
  have bO : ∀ a, a ∈ bagB bag → a ∈ p :: O := fun a ha => E.inO (show a ∈ (⟨P, w, K, p :: O, bag, H⟩ : Ctx).B from ha)
  have s0 : Same (hid (p :: O) H) (hid (p :: O) H1) := same_hid_more bO E1.base
  have sp : Same (hid (p :: bagB bag) H) (hid (p :: bagB bag) H1) := same_hid_more (fun a ha => List.mem_cons_of_mem _ ha) E1.base
  obtain ⟨Ls, sl, sb⟩ := E1.slots
  have eL := sl.flat hfl
  subst eL
  refine hn H1 σ1 fs Dn (h00.trans sp) hp1 pO (hf.mono s0) ?_ fun σ' fs' ks' n' H' s' b' hp' hf' kk' => q σ' fs' ks' n' H' (sp.trans s') b' hp' hf' kk'
  exact { nd := List.nodup_nil, fresh := (fun l hl => nomatch hl), slots := ⟨[], sl.move (fun l hl => nomatch hl) (same_hid_sub fun a ha => List.mem_append_right _ ha), List.Sublist.refl _⟩, lst := (fun l hl => nomatch hl), bag := E1.bag, base := Same.refl _,
          pers := (fun _ _ e => nomatch e), bO := E1.bO, al := E1.al }
/-- what is wished of an error, at heaps behind H00 -/
def XAI (P : Program) (w : World) (K : PySem.W.Frag) (O : List Addr) (bag : Option (Addr × Addr)) (p : Addr) (H00 : Hp) (W : WX) (Ξ : Er) : Prop := ∀ H0, Same (hid (p :: bagB bag) H00) (hid (p :: bagB bag) H0) → XA ⟨P, w, K, p :: O, bag, H0⟩ W Ξ
theorem init_go {N : List Str} {S : SpecIX} {vs : List V} {H : Hp} {Q : VK} {E : XK} {t : TS} (h : spIX K C S vs H Q E)
    (W : ∀ (O : List Addr) (bag : Option (Addr × Addr)) (n : Nat) (ds : List D) (Φ : Nat → List (Str × D) → Prop) (Ξ : Nat → Addr → List (Str × D) → Prop) (p dx : Addr), S bag n ds Φ Ξ → XAI P w K O bag p H (fun cls d _ H' => E cls d H') (fun n' _ C ks => Ξ n' C ks) → WNX P w K O bag p C dx H t (rho N (.adr p :: ds)) n [] Φ) :
    t { nx := fun _ H' => Q .non H', rt := Q } (L2.start N vs) H := by
  obtain ⟨O, bag, n, ds, Φ, Ξ, p, dx, ws, rfl, hp, pO, hb, hO, r, hS, q, qx⟩ := h
  have hx : XAI P w K O bag p H (fun cls d _ H' => E cls d H') (fun n' _ C ks => Ξ n' C ks) := fun H0 s0 P' L n' H' σ ρ C' ex fs ks E' hd hn hf kk => by
    refine qx C' ex fs ks n' H' (s0.trans (same_hid_more (fun a ha => List.mem_cons_of_mem _ ha) E'.base)) (fun b q e => E'.bag b q e) hd (fun z => hn (List.mem_append_right _ z)) (hf.mono (same_hid_sub fun a ha => List.mem_append_right _ ha)) kk
  refine W O bag n ds Φ Ξ p dx hS hx H _ [] _ (Same.refl _) hp pO .nil ?_ fun σ' fs' ks' n' H' s' b' hp' hf' kk' => q fs' ks' n' H' s' b' hp' hf' kk'
  have r' : RpAll K (hid (p :: O) H) (.ref p :: ws) (.adr p :: ds) := .cons (.adr p) r
  have e : L2.start N (.ref p :: ws) = (.ref p :: ws).map some ++ List.replicate (N.length - (D.adr p :: ds).length) none := by unfold L2.start; rw [r'.length]
  exact { nd := List.nodup_nil, fresh := (fun l hl => nomatch hl), slots := ⟨[], by rw [e]; exact slots_start r', List.Sublist.refl _⟩, lst := (fun l hl => nomatch hl), bag := fun b q e => (hb b q e).1, base := Same.refl _,
          pers := (fun _ _ e => nomatch e), bO := fun b q e => ⟨List.mem_cons_of_mem _ (hb b q e).2.1, List.mem_cons_of_mem _ (hb b q e).2.2.1, (hb b q e).2.2.2⟩,
          al := fun o ho => by
            rcases List.mem_cons.mp ho with z | z
            · rw [z, hp]; exact fun z => nomatch z
            · exact hO o z }
theorem spIX_len {S : SpecIX} {ps : List Str} {vs : List V} {H : Hp} {Q : VK} {E : XK} (len : ∀ bag n ds Φ Ξ, S bag n ds Φ Ξ → ds.length + 1 = ps.length) (h : spIX K C S vs H Q E) : vs.length = ps.length := by
  obtain ⟨O, bag, n, ds, Φ, Ξ, p, dx, ws, rfl, _, _, _, _, r, hS, _⟩ := h
  rw [List.length_cons, r.length]; exact len bag n ds Φ Ξ hS
/-- THE RULES for an __init__ that may raise -/
theorem fn_IX {x qual : Str} {st : Stmt} {fa : Addr} {fd : FuncData} {N ps : List Str} {k : Nat} {S : SpecIX} (F : Fun K x qual st fa fd) (sc : FnScope N ps (defScope st))
    (len : ∀ bag n ds Φ Ξ, S bag n ds Φ Ξ → ds.length + 1 = ps.length)
    (body : ∀ (cdv : Value) (A : Around) (outer : List PySem.Env) (s : Shared) (H : Hp) (E : XK), Room k (A.deeper (PyProof.Rows.envOfC qual (defScope st) s.heap.objs.size fa cdv)) →
      ∃ t, PSs (cxOf (L2.CX P w) P w K mg base N qual (defScope st) fa cdv A outer s H E) (defBody st) t ∧ ∀ (O : List Addr) (bag : Option (Addr × Addr)) (n : Nat) (ds : List D) (Φ : Nat → List (Str × D) → Prop) (Ξ : Nat → Addr → List (Str × D) → Prop) (p dx : Addr), S bag n ds Φ Ξ →
        XAI P w K O bag p H (fun cls d _ H' => E cls d H') (fun n' _ C ks => Ξ n' C ks) → WNX P w K O bag p C dx H t (rho N (.adr p :: ds)) n [] Φ) :
    FnOk P w K mg base (L2.CX P w) (k + 1) fa fd ps (spIX K C S) := by
  refine F.okX sc (fun vs H Q E h => spIX_len len h) (fun cdv A outer s H vs Q E hr h => ?_)
  obtain ⟨t, ht, W⟩ := body cdv A outer s H E hr
  exact ⟨t, ht, init_go h W⟩
theorem fn_IDX {x qual : Str} {st : Stmt} {fa : Addr} {fd : FuncData} {N ps : List Str} {k : Nat} {S : SpecIX} {dvs : List V} (F : FunD K x qual (defArgs st) (defBody st) (defScope st) dvs [] fa fd) (sc : FnScope N ps (defScope st))
    (len : ∀ bag n ds Φ Ξ, S bag n ds Φ Ξ → ds.length + 1 = ps.length)
    (body : ∀ (cdv : Value) (A : Around) (outer : List PySem.Env) (s : Shared) (H : Hp) (E : XK), Room k (A.deeper (PyProof.Rows.envOfC qual (defScope st) s.heap.objs.size fa cdv)) →
      ∃ t, PSs (cxOf (L2.CX P w) P w K mg base N qual (defScope st) fa cdv A outer s H E) (defBody st) t ∧ ∀ (O : List Addr) (bag : Option (Addr × Addr)) (n : Nat) (ds : List D) (Φ : Nat → List (Str × D) → Prop) (Ξ : Nat → Addr → List (Str × D) → Prop) (p dx : Addr), S bag n ds Φ Ξ →
        XAI P w K O bag p H (fun cls d _ H' => E cls d H') (fun n' _ C ks => Ξ n' C ks) → WNX P w K O bag p C dx H t (rho N (.adr p :: ds)) n [] Φ) :
    FnOk P w K mg base (L2.CX P w) (k + 1) fa fd ps (spIX K C S) := by
  refine F.ok sc (fun vs H Q E h => spIX_len len h) (fun cdv A outer s H vs Q E hr h => ?_)
  obtain ⟨t, ht, W⟩ := body cdv A outer s H E hr
  exact ⟨t, ht, init_go h W⟩
end
section
variable {c : Ctx} {ρ : List SD} {n : Nat} {te to : TE} {as : TA} {Φ : Nat → D → Prop} {W : WX} {Ξ : Er}
theorem make_go {C : Addr} {S : SpecIX} {dvs : List V} {dds : List D} (hw : XA c W Ξ) (hd : ∀ H, RpAll c.K H dvs dds) {P : Hp} {L : List Addr} {σ : L2.St} {H : Hp} {Q : VK} {E' : XK} (hE : ∀ cls d H', W cls d σ H' → E' cls d H') {vs : List V} {ds : List D} (E1 : Env c P L n H σ ρ)
    (r1 : RpAll c.K (hid (L ++ c.O) H) vs ds) (k : S c.bag n (ds ++ dds) (fun n2 ks => Φ n2 (.obj C ks)) fun n2 C' ks => Ξ n2 ρ C' ks)
    (q : ∀ v d n' H', Same (hid c.B H) (hid c.B H') → c.J n' H' → Rp c.K (hid (L ++ c.O) H') v d → Φ n' d → Q v H') : ∀ x dx, H x = none → H dx = none → dx ≠ x →
    spIX c.K C S (.ref x :: (vs ++ dvs)) (upd (upd H dx (.own x)) x (.ins C dx [])) (fun v H2 => v = .non ∧ Q (.ref x) H2) E' := by
  intro x dx nx ndx nex
  have xO : x ∉ L ++ c.O := E1.noO x nx
  have keep : ∀ a o, H a = some o → (upd (upd H dx (.own x)) x (.ins C dx [])) a = some o := fun a o e => by
    rw [upd_ne (fun z : a = x => by rw [z, nx] at e; cases e), upd_ne (fun z : a = dx => by rw [z, ndx] at e; cases e)]
    exact e
  have sm : Same (hid (L ++ c.O) H) (hid (x :: (L ++ c.O)) (upd (upd H dx (.own x)) x (.ins C dx []))) := fun a o e => by
    obtain ⟨e1, e2⟩ := hid_some.mp e
    refine hid_some.mpr ⟨fun z => ?_, keep a o e2⟩
    rcases List.mem_cons.mp z with z | z
    · rw [z, nx] at e2; cases e2
    · exact e1 z
  have back : ∀ H3, Same (hid (x :: bagB c.bag) (upd (upd H dx (.own x)) x (.ins C dx []))) (hid (x :: bagB c.bag) H3) → Same (hid c.B H) (hid c.B H3) := fun H3 s3 a o e => by
    obtain ⟨e1, e2⟩ := hid_some.mp e
    have ne : a ≠ x := fun z => by rw [z, nx] at e2; cases e2
    have z := s3 a o (hid_some.mpr ⟨fun z => by
      rcases List.mem_cons.mp z with z | z
      · exact ne z
      · exact e1 z, keep a o e2⟩)
    exact hid_some.mpr ⟨e1, (hid_some.mp z).2⟩
  refine ⟨L ++ c.O, c.bag, n, ds ++ dds, _, _, x, dx, vs ++ dvs, rfl, upd_same, xO, fun b q hb => ⟨(E1.bag b q hb).move (fun o e => keep b o e) (fun o e => keep q o e), List.mem_append_right _ (E1.bO b q hb).1, List.mem_append_right _ (E1.bO b q hb).2.1, (E1.bO b q hb).2.2⟩, fun o ho => ?_, (r1.mono sm).append (hd _), k, fun fs ks n2 H3 s3 j3 hx hf kk => ⟨rfl, ?_⟩, fun C' ex fs ks n2 H3 s3 j3 hx hn hf kk => ?_⟩
  · cases e : H o with
    | none => exact absurd e (E1.alLO o ho)
    | some u => rw [keep o u e]; exact fun z => nomatch z
  · exact q (.ref x) (.obj C ks) n2 H3 (back H3 s3) j3 (.obj (dx := dx) (hid_some.mpr ⟨xO, hx⟩) (hf.mono (same_hid_sub fun a ha => List.mem_cons_of_mem _ ha))) kk
  · exact hE _ _ _ (hw P L n2 H3 σ ρ C' ex fs ks (E1.step (back H3 s3) j3) hx (fun z => hn (List.mem_cons_of_mem _ z)) (hf.mono (same_hid_sub fun a ha => List.mem_cons_of_mem _ ha)) kk)
theorem we_makeSD {C : Addr} {S : SpecIX} {dvs : List V} {dds : List D} (hw : XA c W Ξ) (hd : ∀ H, RpAll c.K H dvs dds) (h : WA c as ρ n fun n1 ds => S c.bag n1 (ds ++ dds) (fun n2 ks => Φ n2 (.obj C ks)) fun n2 C' ks => Ξ n2 ρ C' ks) :
    WE c (tMakeSD C (spIX c.K C S) dvs (fun σ => L2.WE W σ) as) ρ n Φ := fun P L σ H Q E q => by
  refine h P L σ H _ E fun vs ds n1 H1 s1 j1 r1 k => ?_
  exact make_go hw hd (fun _ _ _ z => z) (E.step s1 j1) r1 k fun v d n' H' s' j' r' kk => q v d n' H' (s1.trans s') j' r' kk
theorem we_makeX {C : Addr} {S : SpecIX} {dvs : List V} {dds : List D} {XE : XK} (hw : XA c (fun cls d _ H => XE cls d H) Ξ) (hd : ∀ H, RpAll c.K H dvs dds) (h : WA c as ρ n fun n1 ds => S c.bag n1 (ds ++ dds) (fun n2 ks => Φ n2 (.obj C ks)) fun n2 C' ks => Ξ n2 ρ C' ks) :
    WE c (tMake C (spIX c.K C S) dvs XE as) ρ n Φ := fun P L σ H Q E q => by
  refine h P L σ H _ E fun vs ds n1 H1 s1 j1 r1 k => ?_
  exact make_go hw hd (fun _ _ _ z => z) (E.step s1 j1) r1 k fun v d n' H' s' j' r' kk => q v d n' H' (s1.trans s') j' r' kk
theorem we_methSD {C : Addr} {m : Str} {S : SpecX} {dvs : List V} {dds : List D} (hw : XA c W Ξ) (hd : ∀ H, RpAll c.K H dvs dds)
    (h : WE c to ρ n fun n1 x => ∃ ds, x = .obj C ds ∧ ds.lookup m = none ∧ WA c as ρ n1 fun n2 es => S c.bag n2 (.obj C ds :: (es ++ dds)) Φ fun n3 C ks => Ξ n3 ρ C ks) : WE c (tMethSD C m (spDX c.K S) dvs (fun σ => L2.WE W σ) to as) ρ n Φ := fun P L σ H Q E q => by
  refine h P L σ H _ E fun x d n1 H1 s1 j1 r1 ⟨ds, e, hn, ha⟩ => ?_
  subst e
  have E1 := E.step s1 j1
  cases r1 with
  | obj h1 hf =>
    refine ⟨_, _, _, rfl, (hid_some.mp h1).2, hf.none hn, ?_⟩
    refine ha P L σ H1 _ E1 fun vs es n2 H2 s2 j2 r2 k => ?_
    have E2 := E1.step s2 j2
    refine ⟨L ++ c.O, c.bag, n2, _, Φ, _, fun b q hb => ⟨j2 b q hb, List.mem_append_right _ (E.bO b q hb).1, List.mem_append_right _ (E.bO b q hb).2.1, (E.bO b q hb).2.2⟩, E2.alLO, .cons ((Rp.obj h1 hf).mono (E1.sameLO s2)) (r2.append (hd _)), k,
      fun v d n3 H3 s3 j3 r3 k3 => q v d n3 H3 ((s1.trans s2).trans s3) j3 r3 k3, fun C' dx fs ks n3 H3 s3 j3 hx hn hf kk => ?_⟩
    exact hw P L n3 H3 σ ρ C' dx fs ks (E2.step s3 j3) hx hn hf kk
end
/-! ### a second bag -/
/-- a bag made of a bag -/
def spNewBag : Sp := fun vs H Q _ => ∃ (b q : Addr) (n : Nat), vs = [.ref b] ∧ BagOk b q n H ∧ ∀ b2 q2 H', Same H H' → H b2 = none → H q2 = none → q2 ≠ b2 → BagOk b2 q2 0 H' → Q (.ref b2) H'
section
variable {c : Ctx} {ρ : List SD} {n i : Nat} {Φ : Nat → D → Prop} {b q : Addr} {S : L3.Spec} {XE XE' : XK}
theorem we_bag2 (hb : c.bag = some (b, q)) (hi : ρ[i]? = some (.val (.adr b))) (h : ∀ b2 q2, S (some (b2, q2)) 0 [.adr b2] fun _ d => ∃ k, d = .bl k ∧ Φ n (.bl k)) :
    WE c (tCall (spD c.K S) [] XE (tCons (tCall spNewBag [] XE' (tCons (tVar i) tNil)) tNil)) ρ n Φ := fun P L σ H Q E q0 => by
  obtain ⟨Ls, sl, sb⟩ := E.slots
  obtain ⟨v, hv, rv⟩ := sl.get hi
  cases rv
  refine ⟨_, hv, b, q, n, rfl, E.bag b q hb, fun b2 q2 H1 s1 nb nq ne B2 => ?_⟩
  have bO := E.bO b q hb
  refine ⟨[b2, q2], some (b2, q2), 0, [.adr b2], _, fun b' q' e => ?_, fun o ho => ?_, .cons (.adr b2) .nil, h b2 q2, fun v d n' H' s j r ⟨k, e, kk⟩ => ?_⟩
  · cases e
    exact ⟨B2, List.mem_cons_self, List.mem_cons_of_mem _ List.mem_cons_self, ne⟩
  · obtain ⟨t, r, cs, h1, h2, _⟩ := B2
    rcases List.mem_cons.mp ho with z | z
    · rw [z, h1]; exact fun z => nomatch z
    · rw [List.mem_singleton.mp z, h2]; exact fun z => nomatch z
  · subst e
    cases r
    have nx : ∀ a o, H a = some o → H' a = some o := fun a o ha => by
      have ne2 : a ≠ b2 := fun z => by rw [z, nb] at ha; cases ha
      exact (hid_some.mp (s a o (hid_some.mpr ⟨fun z => ne2 (List.mem_singleton.mp z), s1 a o ha⟩))).2
    obtain ⟨sB, jB⟩ := E.same nx
    exact q0 _ _ n H' sB jB (.bl k) kk
end
/-! ### powers of any base -/
def CPowB (i j : Int) : Prop := 0 ≤ j ∧ (Builtin.Int.intBits i : Int) * j ≤ 2 ^ 27
theorem op_powB {X : Cx} : OpR X (binaryOp .Pow) (rI CPowB fun i j => .int (i ^ j.toNat)) := opI fun _ _ _ _ _ _ _ hc q => PyProof.Rows.pow_int hc.1 hc.2 q
end L3
/-! L5a: texts as data: split, join, str(int), int(text). -/
namespace L3
open PySem L2
section
variable {c : Ctx} {ρ : List SD} {n : Nat} {Φ : Nat → D → Prop} {to te : TE}
abbrev rSpl : V → List V → Hp → VK → Prop := fun x xs H Q => ∃ a b, x = .str a ∧ xs = [.str b] ∧ (b.length == 0) = false ∧ a.length + 2 ≤ sizeLine ∧ rNewStrs (Txt.split a b) H Q
abbrev rJoi (K : PySem.W.Frag) : V → List V → Hp → VK → Prop := fun x xs H Q => ∃ a p, ∃ ys : List Str, x = .str a ∧ xs = [.ref p] ∧ (SqL K H p (ys.map V.str) ∨ SqT K H p (ys.map V.str)) ∧
  (ys.map (·.length)).sum + ys.length * a.length ≤ 16777216 ∧ Q (.str (Txt.join a ys)) H
theorem rp_strs {K : PySem.W.Frag} {H : Hp} : ∀ {vs : List V} {zs : List Str}, RpAll K H vs (zs.map .str) → vs = zs.map V.str
  | [], [], _ => rfl
  | _ :: _, [], h => by cases h
  | [], _ :: _, h => by cases h
  | v :: vs, z :: zs, h => by
    cases h with
    | cons h t =>
      cases h
      rw [rp_strs t]; rfl
theorem rp_ofStrs {K : PySem.W.Frag} {H : Hp} : ∀ zs : List Str, RpAll K H (zs.map V.str) (zs.map .str)
  | [] => .nil
  | z :: zs => .cons (.str z) (rp_ofStrs zs)
theorem we_split (h : WE c to ρ n fun n1 d => ∃ a, d = .str a ∧ a.length + 2 ≤ sizeLine ∧ WE c te ρ n1 fun n2 e => ∃ b, e = .str b ∧ (b.length == 0) = false ∧ Φ n2 (.lst ((Txt.split a b).map .str))) : WE c (tM1 rSpl to te) ρ n Φ := fun P L σ H Q E q => by
  refine h P L σ H _ E fun x d n1 H1 s1 j1 r1 ⟨a, e, ha, h1⟩ => ?_
  subst e
  cases r1
  have E1 := E.step s1 j1
  refine ⟨⟨a, rfl⟩, h1 P L σ H1 _ E1 fun y d2 n2 H2 s2 j2 r2 ⟨b, e2, hb, k⟩ => ?_⟩
  subst e2
  cases r2
  refine ⟨a, b, rfl, rfl, hb, ha, fun p hp => ?_⟩
  have z := (E1.step s2 j2).newT (o := .lst ((Txt.split a b).map V.str)) hp
  exact q _ _ n2 _ ((s1.trans s2).trans z.1) z.2.1 (.lst (.inl (hid_at z.2.2)) (rp_ofStrs _)) k
theorem we_join (h : WE c to ρ n fun n1 d => ∃ a, d = .str a ∧ WE c te ρ n1 fun n2 e => ∃ zs : List Str, seqD e = some (zs.map .str) ∧ (zs.map (·.length)).sum + zs.length * a.length ≤ 16777216 ∧ Φ n2 (.str (Txt.join a zs))) : WE c (tM1 (rJoi c.K) to te) ρ n Φ := fun P L σ H Q E q => by
  refine h P L σ H _ E fun x d n1 H1 s1 j1 r1 ⟨a, e, h1⟩ => ?_
  subst e
  cases r1
  have E1 := E.step s1 j1
  refine ⟨⟨a, rfl⟩, h1 P L σ H1 _ E1 fun y d2 n2 H2 s2 j2 r2 ⟨zs, hs, hz, k⟩ => ?_⟩
  cases r2 with
  | lst hq hr =>
    have e := Option.some.inj hs
    subst e
    rw [rp_strs hr] at hq
    exact ⟨a, _, zs, rfl, rfl, .inl (.inl (same_rd same_hid hq)), hz, q _ _ n2 _ (s1.trans s2) j2 (.str _) k⟩
  | tup hq hr =>
    have e := Option.some.inj hs
    subst e
    rw [rp_strs hr] at hq
    exact ⟨a, _, zs, rfl, rfl, .inr (same_t same_hid hq), hz, q _ _ n2 _ (s1.trans s2) j2 (.str _) k⟩
  | _ => cases hs
abbrev rStrI : List V → Hp → VK → Prop := fun xs H Q => ∃ i : Int, xs = [.int i] ∧ i.natAbs.log2 < 1920 ∧ Q (.str (toString i)) H
abbrev rIntS : List V → Hp → VK → Prop := fun xs H Q => ∃ a n, xs = [.str a] ∧ PySem.intText? a = some n ∧ a.length ≤ 640 ∧ Q (.int n) H
theorem rc_strI {K : PySem.W.Frag} {Φ : D → Prop} {i : Int} (hi : i.natAbs.log2 < 1920) (k : Φ (.str (toString i))) : RCD K rStrI [.int i] Φ := fun O H xs Q rs no q => by
  obtain ⟨v, rfl, r⟩ := rs.one
  cases r
  exact ⟨i, rfl, hi, q _ _ H (Same.refl _) (.str _) k⟩
theorem rc_intS {K : PySem.W.Frag} {Φ : D → Prop} {a : Str} {i : Int} (h : PySem.intText? a = some i) (hl : a.length ≤ 640) (k : Φ (.int i)) : RCD K rIntS [.str a] Φ := fun O H xs Q rs no q => by
  obtain ⟨v, rfl, r⟩ := rs.one
  cases r
  exact ⟨a, i, rfl, h, hl, q _ _ H (Same.refl _) (.int _) k⟩
end
end L3
/-! L5b: instances whose __iter__ hands on the iterator of a tuple of theirs. -/
namespace L3
open PySem PySem.Spec PyProof.Rows L2
/-- a tuple's iterator at its beginning -/
def tiO (t : Addr) : Obj := { cls := .type "tuple_iterator", data := .fields #[.ref t, .int 0 0] }
def ItT (t it : Addr) : HO := .ext fun h => h.get? it = some (tiO t)
abbrev rItT (K : PySem.W.Frag) (n : Nat) : List V → Hp → VK → Prop := fun xs H Q => ∃ (t : Addr) (zs : List V), xs = [.ref t] ∧ SqT K H t zs ∧ ∀ it, H it = none → n ≤ it → Q (.ref it) (upd H it (ItT t it))
section
variable {X : Cx}
theorem x_iterT : CallR X (.builtin "iter") (rItT X.K X.s_0.heap.objs.size) := by
  intro pins s σ H xs us Q I r ⟨t, zs, hx, ht, q⟩
  subst hx
  have eu := Vals.ref1 r
  subst eu
  obtain ⟨its, _, pt, _⟩ := I.tuple ht
  refine Calls.call_function_entry (by decide +kernel) (by decide +kernel) PySem.W.kdk_entry_iter (PySem.W.kdk_args_iter _) ?_
  unfold Builtin.«iter»
  refine wpAny_bind (m := someArgs "iter" 1 2 _) (wpAny_of_eq (a := [Value.ref t]) (by first | rfl | kernel_rfl!) ?_)
  show wpAny _ _ (pyIter (Value.ref t) >>= _) _ _ _
  have ep : L2.Inv X pins σ (upd H s.heap.objs.size (ItT t s.heap.objs.size)) { s with heap := s.heap.push (tiO t), toks := s.toks } := I.laid (fun b u e => Heap.get?_push_of_some _ e) (Nat.le_refl _) ⟨Heap.get?_push_size _ rfl, ⟨_, Heap.get?_push_size _ rfl⟩, fun _ _ a k => k _ a⟩
  exact wpAny_bind (wpAny_pyIter_tuple (show s.heap.IsTuple t its.toArray from pt) (wpAny_pure ⟨_, rfl, .ref s.heap.objs.size, _, ep, rfl, q _ (I.hok.fresh (Nat.le_refl _)) I.sz⟩))
end
/-- what such an __iter__ does: f the field of the tuple -/
def ItRun (P : Program) (w : World) (K : PySem.W.Frag) (mg : Str → Option Value) (base : Heap) (C : Addr) (f : Str) (k : Nat) (fi : Addr) : Prop :=
  ∀ (A : Around) (outer : List PySem.Env) (s : Shared) (H : Hp) (E : XK) (a dx t : Addr) (fs : List (Str × V)) (xs : List V), Room k A → Env0 P w K mg base A outer s H → H a = some (.ins C dx fs) → fs.lookup f = some (.ref t) → SqT K H t xs →
    codeAny (model P w) A (.call (.ref fi) ⟨[.ref a], []⟩) (CR CX0 outer P w H s (fun v H' => ∃ it, v = .ref it ∧ H it = none ∧ s.heap.objs.size ≤ it ∧ H' = upd H it (ItT t it)) E) s
theorem itRun_of {P : Program} {w : World} {K : PySem.W.Frag} {mg : Str → Option Value} {base : Heap} {C fa : Addr} {f : Str} {k : Nat} {x qual : Str} {st : Stmt} {fd : FuncData} {N : List Str} (F : Fun K x qual st fa fd) (sc : FnScope N ["self"] (defScope st)) (b : Binds K fd ["self"] [])
    (body : ∀ (cdv : Value) (A : Around) (outer : List PySem.Env) (s : Shared) (H : Hp) (E : XK), ∃ t, PSs (cxOf CX0 P w K mg base N qual (defScope st) fa cdv A outer s H E).nox (defBody st) t ∧
      ∀ (a dx tt : Addr) (fs : List (Str × V)) (xs : List V) (Q : VK), H a = some (.ins C dx fs) → fs.lookup f = some (.ref tt) → SqT K H tt xs → (∀ it, H it = none → s.heap.objs.size ≤ it → Q (.ref it) (upd H it (ItT tt it))) → t { nx := fun _ H' => Q .non H', rt := Q } (L2.start N [.ref a]) H) : ItRun P w K mg base C f (k + 1) fa := by
  intro A outer s H E a dx tt fs xs hr e0 ha hl ht
  obtain ⟨oc, od, kV, doc, pm, an, cdv, ct, osl, rfl, lk, hcd⟩ := F.ex
  refine LamX.run_ofS (N := N) (ps := ["self"]) (vs := [.ref a]) (us := [.ref a]) lk hcd sc hr e0 (by
    have z := b s [.ref a] (e0.mod.kin.keeps fun b o e => (e0.bs b o e).1) rfl
    simpa using z) (.cons rfl .nil) rfl fun _ => ?_
  obtain ⟨t, h1, h2⟩ := body cdv A outer s H E
  exact ⟨t, h1.nox, h2 a dx tt fs xs (fun v H' => ∃ it, v = .ref it ∧ H it = none ∧ s.heap.objs.size ≤ it ∧ H' = upd H it (ItT tt it)) ha hl ht fun it hn hy => ⟨it, rfl, hn, hy, rfl⟩⟩
def iOwn (K : PySem.W.Frag) (C : Addr) (f : Str) (tl : TE) : TI := fun σ H R => tl σ H fun x H1 => ∃ (a dx t : Addr) (fs : List (Str × V)) (xs : List V), x = .ref a ∧ H1 a = some (.ins C dx fs) ∧ fs.lookup f = some (.ref t) ∧ SqT K H1 t xs ∧ R (Itt K t) H1
/-- a class with such an __iter__, as callers see it -/
structure ItOwn (P : Program) (w : World) (K : PySem.W.Frag) (mg : Str → Option Value) (base : Heap) (C : Addr) (f : Str) (k : Nat) where
  fi : Addr
  it : PySem.W.findIn K (.ref C) "__iter__" = some (some (.ref fi))
  fn : PySem.W.isFn K (.ref fi) = true
  G : ItRun P w K mg base C f k fi
section
variable {X : Cx} {tg l : Expr} {tl : TE} {C fi : Addr} {f : Str} {k : Nat} {E : XK}
theorem pi_own (hl : PE X l tl) (F : ItRun X.prog X.w X.K X.mg X.base C f k fi) (hi : PySem.W.findIn X.K (.ref C) "__iter__" = some (some (.ref fi))) (hf : PySem.W.isFn X.K (.ref fi) = true) (hr : Room k X.A) (hx : Passes CX0 X E) : PI X tg l (iOwn X.K C f tl) := by
  refine ⟨fun pins s σ H R I h => ?_⟩
  refine thn (hl.run pins s σ H _ I h) fun v s1 ⟨x, H1, I1, r1, a, dx, t, fs, xs, ex, ha, hfl, ht, q⟩ => ?_
  subst ex
  cases r1
  obtain ⟨mA, J, _⟩ := ins_get I1.hok ha
  obtain ⟨od, J, _⟩ := J.look
  obtain ⟨m, hF⟩ := I1.fr
  refine PySem.W.owit_iter hF I1.ok.mod.kin J hi hf (wpAny_call (codeAny_mono (F X.A X.stack s1 H1 E a dx t fs xs hr I1.env0 ha hfl ht) fun r s' hq => ?_))
  cases r with
  | error e => exact hx pins σ H1 s1 e s' I1 hq
  | ok fl =>
    cases fl with
    | next => exact False.elim hq
    | brk => exact False.elim hq
    | cont => exact False.elim hq
    | ret u =>
      obtain ⟨v, H2, I2, r2, it, ev, hit, young, eH⟩ := I1.after hq
      subst ev
      rw [eH] at I2
      cases r2
      have hat : upd H1 it (ItT t it) it = some (ItT t it) := upd_same
      have eo : s'.heap.get? it = some (tiO t) := (I2.hok it _ hat).1
      have st : s'.heap.IsTupleIter it t 0 := ⟨_, eo, rfl, rfl⟩
      unfold PySem.W.OwitIt
      refine wpAny_specialOf st.typeIs PySem.F.slot_tuple_iterator_next.lookup ?_
      have e : ItX.dropH (upd H1 it (ItT t it)) it = H1 := ItX.dropH_upd hit
      refine ⟨it, [it], _, Itt X.K t, H1, rfl, ?_, turn_tuple t it, st, fun b hb2 => ?_, q⟩
      · have z := ItX.inv_drop I2 hat
        rw [e] at z
        exact z
      · have eb : b = it := by simpa using hb2
        rw [eb]
        have z := ItX.inv_fp I2 hat (Nat.le_trans I1.sz young)
        rw [e] at z
        exact z
end
end L3
/-! L5c: own iteration as data; == of tuples of instances with an own ==. -/
namespace L3
open PySem L2
section
variable {c : Ctx} {ρ : List SD} {n : Nat} {te : TE}
theorem wi_own {C : Addr} {f : Str} {Φ : Nat → List D → Prop} (h : WE c te ρ n fun n1 d => ∃ ks ds, d = .obj C ks ∧ ks.lookup f = some (.tup ds) ∧ Φ n1 ds) : WI c (iOwn c.K C f te) ρ n Φ := fun P L σ H R E q => by
  refine h P L σ H _ E fun x d n1 H1 s1 j1 r1 ⟨ks, ds, e, el, k⟩ => ?_
  subst e
  cases r1 with
  | obj h1 hf =>
    obtain ⟨v, hv, rv⟩ := hf.look el
    cases rv with
    | tup hs ha => exact ⟨_, _, _, _, _, rfl, (hid_some.mp h1).2, hv, same_t same_hid hs, q _ _ n1 H1 s1 j1 (it_t hs ha) k⟩
/-- len of such an instance is not told here -/
def okE2 (K : PySem.W.Frag) (O : List Addr) (C : Addr) (good : List (Str × D) → Prop) (a b : Addr) (H : Hp) : Prop := (∀ o ∈ O, H o ≠ none) ∧ ∃ ks, good ks ∧ Rp K (hid O H) (.ref a) (.obj C ks) ∧ Rp K (hid O H) (.ref b) (.obj C ks)
theorem okE2_mon {K : PySem.W.Frag} {O : List Addr} {C : Addr} {good : List (Str × D) → Prop} (a b : Addr) (H H' : Hp) (e : Ext H H') (h : okE2 K O C good a b H) : okE2 K O C good a b H' := by
  obtain ⟨h1, ks, g, r1, r2⟩ := h
  refine ⟨fun o ho z => ?_, ks, g, r1.mono (same_hid_of e), r2.mono (same_hid_of e)⟩
  cases q : H o with
  | none => exact h1 o ho q
  | some u => rw [e o u q] at z; cases z
theorem fn_eq2 {P : Program} {w : World} {K : PySem.W.Frag} {mg : Str → Option Value} {base : Heap} {k : Nat} {f C : Addr} {fd : FuncData} {ps : List Str} {S : L3.Spec} {O : List Addr} {good : List (Str × D) → Prop} (F : FnOk P w K mg base CX0 k f fd ps (spD K S))
    (hS : ∀ ks, good ks → S none 0 [.obj C ks, .obj C ks] fun _ r => r = .bl true) : FnOk P w K mg base CX0 k f fd ps (spEq (okE2 K O C good)) := F.imp fun vs H Q E h => by
  obtain ⟨a, b, rfl, ⟨h1, ks, g, r1, r2⟩, q⟩ := h
  refine ⟨O, none, 0, _, _, (fun b q e => nomatch e), h1, .cons r1 (.cons r2 .nil), hS ks g, fun v d n' H' s j r e => ?_⟩
  subst e
  cases r
  refine q H' fun a o e => ?_
  have z : Same (hid [] H) (hid [] H') := s
  rw [hid_nil, hid_nil] at z
  exact z a o e
/-- x == y, two tuples of the same things, item by item by an own == -/
def rOwnT (K : PySem.W.Frag) (C : Addr) (good : List (Str × D) → Prop) : R2 := fun x y H Q => ∃ O, DTup K (DIns C (okE2 K O C good)) x y H ∧ ∀ H', Ext H H' → Q (.bl true) H'
theorem op_ownT {X : Cx} {C : Addr} {n f : Nat} {fd : FuncData} {ps : List Str} {S : L3.Spec} {E : XK} {good : List (Str × D) → Prop} (F : FnOk X.prog X.w X.K X.mg X.base CX0 n f fd ps (spD X.K S)) (hS : ∀ ks, good ks → S none 0 [.obj C ks, .obj C ks] fun _ r => r = .bl true)
    (T : OwnEqT X.K C f) (hr : Room (n + 1) X.A) (hb : Binds X.K fd ps []) (hx : Passes CX0 X E) : OpR X (compareOp .Eq) (rOwnT X.K C good) := by
  intro pins s σ H x y v u Q I rx ry ⟨O, d, q⟩
  exact op_eqG (rcG_tup (mon_ins okE2_mon) (eqG_ins (fn_eq2 (O := O) F hS) T.eq T.fn hb hx)) hr pins s σ H x y v u Q I rx ry ⟨d, q⟩
theorem rp_prs {K : PySem.W.Frag} {O : List Addr} {C : Addr} {good : List (Str × D) → Prop} {H : Hp} (hO : ∀ o ∈ O, H o ≠ none) : ∀ {vs ws : List V} {ds : List D}, (∀ d ∈ ds, ∃ ks, d = .obj C ks ∧ good ks) → RpAll K (hid O H) vs ds → RpAll K (hid O H) ws ds → Prs (DIns C (okE2 K O C good)) vs ws H
  | _, _, _, _, .nil, .nil => Prs.nil
  | _, _, _, hg, .cons h t, .cons h2 t2 => by
    refine Prs.cons ?_ (rp_prs hO (fun d hd => hg d (List.mem_cons_of_mem _ hd)) t t2)
    obtain ⟨ks, e, g⟩ := hg _ List.mem_cons_self
    subst e
    cases id h with
    | obj g1 f1 =>
      cases id h2 with
      | obj g2 f2 => exact ⟨_, _, _, _, _, _, rfl, rfl, (hid_some.mp g1).2, (hid_some.mp g2).2, hO, ks, g, h, h2⟩
theorem r2_ownT {K : PySem.W.Frag} {C : Addr} {good : List (Str × D) → Prop} {ds : List D} {Φ : D → Prop} (hg : ∀ d ∈ ds, ∃ ks, d = .obj C ks ∧ good ks) (k : Φ (.bl true)) : R2D K (rOwnT K C good) (.tup ds) (.tup ds) Φ := fun O H x y Q rx ry no q => by
  cases rx with
  | tup h1 r1 =>
    cases ry with
    | tup h2 r2 =>
      exact ⟨O, ⟨_, _, _, _, rfl, rfl, same_t same_hid h1, same_t same_hid h2, rp_prs (fun o ho e => no o e ho) hg r1 r2⟩, fun H' e => q _ _ H' e (.bl _) k⟩
end
end L3
/-! L5d: try with several clauses, each with a name for its error. -/
namespace L3
open PySem PySem.Spec PyProof.Rows L2
abbrev Sui := Addr → Value → Option Addr → TS
/-- what the clauses wish of an error, one after the other -/
def wAll (K : PySem.W.Frag) (Wout : WX) (D : Ends) : List (Value × Nat × Sui) → WX
  | [] => Wout
  | (c, i, ts) :: r => wAs K c i ts (wAll K Wout D r) D
inductive ClsOk (X : Cx) : List ExceptHandler → List (Value × Nat × Sui) → Prop
  | nil : ClsOk X [] []
  | cons {x nm : Str} {c : Value} {i : Nat} {ts : Sui} {b₀ : Stmt} {su : List Stmt} {np p' : Pos} {hds : List ExceptHandler} {l : List (Value × Nat × Sui)} (hi : X.N[i]? = some nm) (hln : X.env.kindOf nm = some .local) (hc : Names X x c)
      (hsu : ∀ (a : Addr) (oe : Obj) (cls : Value) (d : Option Addr) (pn : List (Addr × Obj)), Zc cls d oe → (∃ vs, oe.data = .fields vs) → PSs (X.suite a ((a, oe) :: pn)) (b₀ :: su) (ts a cls d)) (r : ClsOk X hds l) :
      ClsOk X (.ExceptHandler (some (.Name x np)) (some nm) (b₀ :: su) p' :: hds) ((c, i, ts) :: l)
section
variable {X : Cx} {body : List Stmt} {h₀ : ExceptHandler} {hds : List ExceptHandler} {l : List (Value × Nat × Sui)} {pos : Pos} {tb : WX → TS} {Wout : WX}
def tTryN (K : PySem.W.Frag) (l : List (Value × Nat × Sui)) (Wout : WX) (tb : WX → TS) : TS := fun D σ H => tb (wAll K Wout D l) D σ H
theorem ps_tryN {K : PySem.W.Frag} (hs : X.stack = X.env :: X.outer) (hf : X.env.frame = some X.env.locals) (hN : X.N.Nodup) (tk : Takes X Wout)
    (hb : ∀ (W : WX) (pn : List (Addr × Obj)) (xe : Value → Shared → Prop), Takes (X.tr pn xe) W → PassesOwn (model X.prog X.w) X.A X.env xe → PSs (X.tr pn xe) body (tb W))
    (hh : ClsOk X (h₀ :: hds) l) (hK : X.K = K := by rfl) : PS X (.Try body (h₀ :: hds) [] [] pos) (tTryN K l Wout tb) := by
  subst hK
  refine ⟨fun pins s σ H D I h => ?_⟩
  have good := I.ok
  have frA : X.A.frames = some (X.env :: X.outer) := good.frames.trans (by rw [hs])
  let xe' : Value → Shared → Prop := fun e t => wpAny (model X.prog X.w) X.A (noteFrame e X.env) (fun _ t2 => wpAny (model X.prog X.w) X.A (setFlight e none) (fun _ t3 => wpAny (model X.prog X.w) X.A (handleBy e X.env (h₀ :: hds)) (SP X pins D) X.xe t3) X.xe t2) X.xe t
  refine wpAny_Try_except ?_
  refine wpAny_mono ((hb (wAll X.K Wout D l) (X.pn ++ pins) xe' (fun u t caught => ?ca) PassesOwn.looking).run [] s σ H D (I.toTry _) h) (fun f t through => ?thru) (fun _ _ z => z)
  case thru =>
    cases f with
    | ret u => obtain ⟨v, σ1, H1, J, r, q⟩ := through; exact ⟨v, σ1, H1, J.ofTry good, r, q⟩
    | brk => obtain ⟨σ1, H1, J, q⟩ := through; exact ⟨σ1, H1, J.ofTry good, q⟩
    | cont => obtain ⟨σ1, H1, J, q⟩ := through; exact ⟨σ1, H1, J.ofTry good, q⟩
    | next => obtain ⟨σ1, H1, J, q⟩ := through; exact wpAny_execs_nil ⟨σ1, H1, J.ofTry good, q⟩
  case ca =>
    obtain ⟨a, B, t0, pins1, σ1, H1, cls, d, rfl, J0, nb, up1, sky, na, os, ag, wish⟩ := caught
    have J : L2.Inv X pins σ1 H1 t0 := J0.ofTry good
    have sky1 : Sky B (X.env :: X.outer) a (Zc cls d) X.env.locals t.heap := hs ▸ sky
    show wpAny (model X.prog X.w) X.A (noteFrame (.ref a) X.env) _ _ _
    refine Sky.land Zc.steady frA hf sky1 fun h2 fl2 up2 => ?_
    have J2 : L2.Inv X pins σ1 H1 { t with heap := h2 } := J.landed nb fl2.1 (up1.trans up2) os ag
    obtain ⟨o2, w2, e2, z2, d2⟩ := fl2.there
    have away : a ∉ frs (X.env :: X.outer) := fun hm => by
      obtain ⟨_, o', e', nf⟩ := fl2.2.2.1.mem hm
      rw [e2] at e'
      cases e'
      exact nf _ d2
    have nLoc : a ≠ X.env.locals := fun z => away (List.mem_filterMap.mpr ⟨X.env, List.mem_cons_self, by rw [hf, z]⟩)
    have nOut : a ∉ X.fs := fun hm => by
      obtain ⟨e, he, q⟩ := List.mem_filterMap.mp hm
      exact away (List.mem_filterMap.mpr ⟨e, List.mem_cons_of_mem _ he, q⟩)
    have S2 := J2.suite e2 d2 na nLoc nOut
    have each : ∀ {gs : List ExceptHandler} {ls : List (Value × Nat × Sui)}, ClsOk X gs ls → wAll X.K Wout D ls cls d σ1 H1 → wpAny (model X.prog X.w) X.A (handleBy (.ref a) X.env gs) (SP X pins D) X.xe { t with heap := h2 } := by
      intro gs ls hk
      induction hk with
      | nil =>
        intro wi
        refine wpAny_handleBy_nil ?_
        obtain ⟨_, _, _, _, _, T, _, _, he, _, hd, h1, _⟩ := id fl2
        unfold PySem.passOn
        refine wpAny_bind (wpAny_field he hd h1 ?_)
        rw [if_neg (show ¬ ((Value.ref T == Value.none) = true) from by simp)]
        have on : wpAny (model X.prog X.w) X.A (setFlight (.ref a) X.env.frame) (fun _ s4 => wpAny (model X.prog X.w) X.A (throw (.ref a) : Sem Flow) (SP X pins D) X.xe s4) X.xe { t with heap := h2 } := by
          rw [hf]
          exact HandSPX.setFlight_upZ fl2 fun h4 hh4 up4 => wpAny_throw (tk _ _ ⟨a, B, t0, pins, σ1, H1, cls, d, rfl, J, nb, (up1.trans up2).trans up4, .inr (.inr (by rw [hs]; exact hh4)), na, os, ag, wi⟩)
        first
          | exact wpAny_bind (wpAny_pure (wpAny_bind on))
          | exact wpAny_bind on
      | @cons x nm c i ts b₀ su np p' gs2 ls2 hi hln hc hsu r ih =>
        intro wi
        obtain ⟨b, hb1, yes, no⟩ := wi
        have isT : PySem.W.Looks (model X.prog X.w) h2 (typeOf (.ref a)) cls := fun A Q E s k q => wpAny_typeOf_ref (k _ _ e2) (by rw [z2.1]; exact q)
        have seen : ∀ {Q : Value → Shared → Prop} {E : Value → Shared → Prop}, Q c { t with heap := h2 } → wpAny (model X.prog X.w) (X.A.mark (some (.ref a))) (eval (.Name x np) X.env) Q E { t with heap := h2 } := fun {Q E} q => by
          obtain ⟨hg, hdb, g | ⟨g, hv, hnn⟩⟩ := hc
          · exact ld_glob (X := X.suite a ((a, o2) :: (X.pn ++ pins))) S2 hg g q hdb
          · exact ld_blt (X := X.suite a ((a, o2) :: (X.pn ++ pins))) S2 hg g hv q hnn hdb
        refine wpAny_handleBy_cons (codeAny_handlers_test (seen ((PySem.W.exm_one (M := model X.prog X.w) J2.kIn isT hb1).here ?_))) (fun q => nomatch q)
        cases b with
        | false => exact ih (no rfl)
        | true =>
          refine codeAny_handlers_suite_as (HandSPX.lands_againZ fl2 fun h4 fl4 up4 => ?_)
          have J4 : L2.Inv X pins σ1 H1 { t with heap := h4 } := J.landed nb fl4.1 ((up1.trans up2).trans up4) os ag
          obtain ⟨o4, w4, e4, z4, d4⟩ := fl4.there
          refine store_ok (X := X.suite a ((a, o4) :: (X.pn ++ pins))) (v := .ref a) (J4.suite e4 d4 na nLoc nOut) hN hi (.inl hln) rfl (fun s5 S5 => ?_) (.inr hln)
          have over : ∀ {s6 : Shared} {σ6 : L2.St} {H6 : Hp} {Q : Shared → Prop}, L2.Inv (X.suite a ((a, o4) :: (X.pn ++ pins))) [] σ6 H6 s6 → (∀ s7, L2.Inv X pins (σ6.set i none) H6 s7 → Q s7) →
              wpAny (model X.prog X.w) X.A (do bindName X.env nm .none; unbindBehindTheSuite X.env nm p') (fun _ s7 => Q s7) X.xe s6 := fun S6 hq => gone_ok (S6.unsuite good) hN hi hln hq
          refine wpAny_mono ((hsu a o4 cls d (X.pn ++ pins) z4 ⟨_, d4⟩).run [] s5 _ H1 _ S5 (yes rfl a na)) (fun f s6 done => ?_) (fun _ _ z => z.elim)
          cases f with
          | ret u => obtain ⟨v, σ6, H6, S6, r6, q6⟩ := done; exact over S6 fun s7 J7 => ⟨_, _, _, J7, r6, q6⟩
          | brk => obtain ⟨σ6, H6, S6, q6⟩ := done; exact over S6 fun s7 J7 => ⟨_, _, J7, q6⟩
          | cont => obtain ⟨σ6, H6, S6, q6⟩ := done; exact over S6 fun s7 J7 => ⟨_, _, J7, q6⟩
          | next => obtain ⟨σ6, H6, S6, q6⟩ := done; exact over S6 fun s7 J7 => ⟨_, _, J7, q6⟩
    exact each hh wish
end
section
variable {c : Ctx} {ρ : List SD} {n : Nat} {Ψ : Out} {tb : WX → TS} {Wout : WX} {Ξ : Er}
/-- the suite that takes an error of the class C with the fields ks -/
def Taken (c : Ctx) (Ψ : Out) (n' : Nat) (ρ' : List SD) (C : Addr) (ks : List (Str × D)) : List (Value × Nat × Sui) → Prop
  | [] => False
  | (cl, i, ts) :: r => (PySem.W.exmOne c.K (.ref C) cl = some true ∧ ∀ O' H0' dx a, Held { c with O := O', H0 := H0' } dx ks → WS { c with O := O', H0 := H0' } (ts a (.ref C) (some dx)) ((ρ'.map asd).set i (.val (.adr a))) n' (outU Ψ i)) ∨
      (PySem.W.exmOne c.K (.ref C) cl = some false ∧ Taken c Ψ n' ρ' C ks r)
theorem ws_tryN {l : List (Value × Nat × Sui)} (hb : ∀ O' H0', ∀ W, XA { c with O := O', H0 := H0' } W Ξ → WS { c with O := O', H0 := H0' } (tb W) (ρ.map asd) n Ψ) (hs : ∀ n' ρ' C ks, Ξ n' ρ' C ks → Taken c Ψ n' ρ' C ks l) : WS c (tTryN c.K l Wout tb) ρ n Ψ := fun P L σ H Dn E A => by
  refine hb (L ++ c.O) H _ ?_ (fun _ => none) [] σ H Dn E.re (A.re E)
  intro P2 L2 n2 H2 σ2 ρ2 C dx fs ks E2 hx hn hf kk
  have E3 : Env c P (L2 ++ L) n2 H2 σ2 ρ2 := E.back E2
  have eO : (L2 ++ L) ++ c.O = L2 ++ (L ++ c.O) := List.append_assoc _ _ _
  have hd : Held { c with O := (L2 ++ L) ++ c.O, H0 := H2 } dx ks := ⟨⟨fs, hx, by rw [eO]; exact hf⟩, by rw [eO]; exact hn⟩
  have go : ∀ l : List (Value × Nat × Sui), Taken c Ψ n2 ρ2 C ks l → wAll c.K Wout Dn l (.ref C) (some dx) σ2 H2 := by
    intro l
    induction l with
    | nil => exact fun z => z.elim
    | cons p r ih =>
      obtain ⟨cl, i, ts⟩ := p
      rintro (⟨he, hh⟩ | ⟨he, hh⟩)
      · refine ⟨true, he, fun _ a ha => ?_, fun z => nomatch z⟩
        refine hh _ _ dx a hd (fun _ => none) [] _ H2 _ (E3.re.set i (.adr a)) ?_
        exact { nx := fun L5 n5 H5 σ5 ρ5 E5 k => A.nx _ n5 H5 _ _ ((E3.back E5).unset i) k,
                rt := fun v d n5 H5 s j r k => A.rt v d n5 H5 (E3.base.trans s) j (r.mono (same_hid_sub fun a ha => List.mem_append_right _ ha)) k,
                bk := fun L5 n5 H5 σ5 ρ5 E5 k => A.bk _ n5 H5 _ _ ((E3.back E5).unset i) k,
                ct := fun L5 n5 H5 σ5 ρ5 E5 k => A.ct _ n5 H5 _ _ ((E3.back E5).unset i) k }
      · exact ⟨false, he, fun z => (nomatch z), fun _ => ih hh⟩
  exact go l (hs n2 ρ2 C ks kk)
end
end L3
/-! L6a: a list of lists of one's own. -/
namespace L3
open PySem L2
theorem RpAll.imp {K : PySem.W.Frag} {H H' : Hp} (e : ∀ v d, Rp K H v d → Rp K H' v d) : ∀ {vs : List V} {ds : List D}, RpAll K H vs ds → RpAll K H' vs ds
  | _, _, .nil => .nil
  | _, _, .cons h r => .cons (e _ _ h) (RpAll.imp e r)
/-- a list of lists of one's own: its address; each row's address and what is in it -/
def LL (l : Addr) (rs : List (Addr × List D)) : OT where
  ls := l :: rs.map (·.1)
  R := fun _ _ K O H v => v = .ref l ∧ H l = some (.lst (rs.map fun r => V.ref r.1)) ∧ ∀ r ∈ rs, ∃ xs, H r.1 = some (.lst xs) ∧ RpAll K (hid O H) xs r.2
  mv := fun {pr wd K O O' H H' v} h hl e => by
    obtain ⟨h1, h2, h3⟩ := h
    refine ⟨h1, (hl _ List.mem_cons_self).trans h2, fun r hr => ?_⟩
    obtain ⟨xs, g1, g2⟩ := h3 r hr
    refine ⟨xs, (hl _ (List.mem_cons_of_mem _ (List.mem_map_of_mem hr))).trans g1, ?_⟩
    exact g2.imp e
  ex := fun {pr wd K O H v} h x hx => by
    obtain ⟨h1, h2, h3⟩ := h
    rcases List.mem_cons.mp hx with q | q
    · subst q; exact ⟨_, h2⟩
    · obtain ⟨r, hr, e⟩ := List.mem_map.mp q
      obtain ⟨xs, g1, _⟩ := h3 r hr
      subst e; exact ⟨_, g1⟩
section
variable {pr : Program} {wd : World} {K : PySem.W.Frag}
/-- what stands at a slot of a structure; the slot filled anew -/
theorem Slots.otAt {O : List Addr} {H : Hp} {T : OT} : ∀ {σ : List (Option V)} {ρ : List SD} {L : List Addr} {i : Nat}, Slots pr wd K O H σ ρ L → ρ[i]? = some (.ot T) → ∃ L1 L2 v, L = L1 ++ (T.ls ++ L2) ∧ σ[i]? = some (some v) ∧ T.R pr wd K O H v ∧
    ∀ O' H', (∀ l ∈ L1 ++ L2, H' l = H l) → Same (hid O H) (hid O' H') → (∀ T' : OT, T'.R pr wd K O' H' v → Slots pr wd K O' H' σ (ρ.set i (.ot T')) (L1 ++ (T'.ls ++ L2))) ∧ (∀ d, Rp K (hid O' H') v d → Slots pr wd K O' H' σ (ρ.set i (.val d)) (L1 ++ L2))
  | _, _, _, _, .nil, e => by simp at e
  | _, _, _, 0, .un _, e => by simp at e
  | _, _, _, 0, .val _ _, e => by simp at e
  | _, _, _, 0, .own _ _ _, e => by simp at e
  | _, _, _, 0, .dic _ _, e => by simp at e
  | _, _, _, 0, .dk _ _, e => by simp at e
  | _, _, _, 0, .tw _ _, e => by simp at e
  | _, _, _, 0, .ot (L := L0) h q s, e => by
    simp at e
    subst e
    exact ⟨[], L0, _, q, rfl, h, fun O' H' hL a => ⟨fun T' t => .ot t rfl (s.move hL a), fun d r => .val r (s.move hL a)⟩⟩
  | _, _, _, i + 1, .un s, e => by
    obtain ⟨L1, L2, v, h1, h2, h3, h4⟩ := Slots.otAt (i := i) s (by simpa using e)
    exact ⟨L1, L2, v, h1, by simpa using h2, h3, fun O' H' hL a => ⟨fun T' t => .un ((h4 O' H' hL a).1 T' t), fun d r => .un ((h4 O' H' hL a).2 d r)⟩⟩
  | _, _, _, i + 1, .val g s, e => by
    obtain ⟨L1, L2, v, h1, h2, h3, h4⟩ := Slots.otAt (i := i) s (by simpa using e)
    exact ⟨L1, L2, v, h1, by simpa using h2, h3, fun O' H' hL a => ⟨fun T' t => .val (g.mono a) ((h4 O' H' hL a).1 T' t), fun d r => .val (g.mono a) ((h4 O' H' hL a).2 d r)⟩⟩
  | _, _, _, i + 1, .own (l := l) g gr s, e => by
    obtain ⟨L1, L2, v, h1, h2, h3, h4⟩ := Slots.otAt (i := i) s (by simpa using e)
    exact ⟨l :: L1, L2, v, by rw [h1]; rfl, by simpa using h2, h3, fun O' H' hL a => by
      have z := h4 O' H' (fun x hx => hL x (List.mem_cons_of_mem _ hx)) a
      exact ⟨fun T' t => .own ((hL l List.mem_cons_self).trans g) (gr.mono a) (z.1 T' t), fun d r => .own ((hL l List.mem_cons_self).trans g) (gr.mono a) (z.2 d r)⟩⟩
  | _, _, _, i + 1, .dic (l := l) g s, e => by
    obtain ⟨L1, L2, v, h1, h2, h3, h4⟩ := Slots.otAt (i := i) s (by simpa using e)
    exact ⟨l :: L1, L2, v, by rw [h1]; rfl, by simpa using h2, h3, fun O' H' hL a => by
      have z := h4 O' H' (fun x hx => hL x (List.mem_cons_of_mem _ hx)) a
      exact ⟨fun T' t => .dic (g.move (hL l List.mem_cons_self) a) (z.1 T' t), fun d r => .dic (g.move (hL l List.mem_cons_self) a) (z.2 d r)⟩⟩
  | _, _, _, i + 1, .dk (l := l) g s, e => by
    obtain ⟨L1, L2, v, h1, h2, h3, h4⟩ := Slots.otAt (i := i) s (by simpa using e)
    exact ⟨l :: L1, L2, v, by rw [h1]; rfl, by simpa using h2, h3, fun O' H' hL a => by
      have z := h4 O' H' (fun x hx => hL x (List.mem_cons_of_mem _ hx)) a
      exact ⟨fun T' t => .dk (g.move (hL l List.mem_cons_self) a) (z.1 T' t), fun d r => .dk (g.move (hL l List.mem_cons_self) a) (z.2 d r)⟩⟩
  | _, _, _, i + 1, .tw (l := l) g s, e => by
    obtain ⟨L1, L2, v, h1, h2, h3, h4⟩ := Slots.otAt (i := i) s (by simpa using e)
    exact ⟨l :: L1, L2, v, by rw [h1]; rfl, by simpa using h2, h3, fun O' H' hL a => by
      have z := h4 O' H' (fun x hx => hL x (List.mem_cons_of_mem _ hx)) a
      exact ⟨fun T' t => .tw (g.move (hL l List.mem_cons_self) a) (z.1 T' t), fun d r => .tw (g.move (hL l List.mem_cons_self) a) (z.2 d r)⟩⟩
  | _, _, _, i + 1, .ot (T := T0) (L := L0) g q s, e => by
    obtain ⟨L1, L2, v, h1, h2, h3, h4⟩ := Slots.otAt (i := i) s (by simpa using e)
    refine ⟨_ ++ L1, L2, v, by rw [q, h1, ← List.append_assoc], by simpa using h2, h3, fun O' H' hL a => ?_⟩
    rw [List.append_assoc] at hL
    have z := h4 O' H' (fun x hx => hL x (List.mem_append_right _ hx)) a
    have g' := OT.mv _ g (fun l hl => hL l (List.mem_append_left _ hl)) fun _ _ r => r.mono a
    exact ⟨fun T' t => .ot g' (List.append_assoc _ _ _) (z.1 T' t), fun d r => .ot g' (List.append_assoc _ _ _) (z.2 d r)⟩
/-- an own list read as a structure -/
theorem Slots.own2ot {O : List Addr} {H : Hp} {ds : List D} : ∀ {σ : List (Option V)} {ρ : List SD} {L : List Addr} {i : Nat}, Slots pr wd K O H σ ρ L → ρ[i]? = some (.own ds) → ∃ l xs, l ∈ L ∧ H l = some (.lst xs) ∧ RpAll K (hid O H) xs ds ∧ ∀ T : OT, T.ls = [l] → T.R pr wd K O H (.ref l) → Slots pr wd K O H σ (ρ.set i (.ot T)) L
  | _, _, _, _, .nil, e => by simp at e
  | _, _, _, 0, .un _, e => by simp at e
  | _, _, _, 0, .val _ _, e => by simp at e
  | _, _, _, 0, .own (l := l) h r s, e => by
    simp at e
    subst e
    exact ⟨l, _, List.mem_cons_self, h, r, fun T q t => .ot t (by rw [q]; rfl) s⟩
  | _, _, _, 0, .dic _ _, e => by simp at e
  | _, _, _, 0, .dk _ _, e => by simp at e
  | _, _, _, 0, .tw _ _, e => by simp at e
  | _, _, _, 0, .ot _ _ _, e => by simp at e
  | _, _, _, i + 1, .un s, e => by
    obtain ⟨l, xs, h1, h2, h3, h4⟩ := Slots.own2ot (i := i) s (by simpa using e)
    exact ⟨l, xs, h1, h2, h3, fun T q t => .un (h4 T q t)⟩
  | _, _, _, i + 1, .val g s, e => by
    obtain ⟨l, xs, h1, h2, h3, h4⟩ := Slots.own2ot (i := i) s (by simpa using e)
    exact ⟨l, xs, h1, h2, h3, fun T q t => .val g (h4 T q t)⟩
  | _, _, _, i + 1, .own g gr s, e => by
    obtain ⟨l, xs, h1, h2, h3, h4⟩ := Slots.own2ot (i := i) s (by simpa using e)
    exact ⟨l, xs, List.mem_cons_of_mem _ h1, h2, h3, fun T q t => .own g gr (h4 T q t)⟩
  | _, _, _, i + 1, .dic g s, e => by
    obtain ⟨l, xs, h1, h2, h3, h4⟩ := Slots.own2ot (i := i) s (by simpa using e)
    exact ⟨l, xs, List.mem_cons_of_mem _ h1, h2, h3, fun T q t => .dic g (h4 T q t)⟩
  | _, _, _, i + 1, .dk g s, e => by
    obtain ⟨l, xs, h1, h2, h3, h4⟩ := Slots.own2ot (i := i) s (by simpa using e)
    exact ⟨l, xs, List.mem_cons_of_mem _ h1, h2, h3, fun T q t => .dk g (h4 T q t)⟩
  | _, _, _, i + 1, .tw g s, e => by
    obtain ⟨l, xs, h1, h2, h3, h4⟩ := Slots.own2ot (i := i) s (by simpa using e)
    exact ⟨l, xs, List.mem_cons_of_mem _ h1, h2, h3, fun T q t => .tw g (h4 T q t)⟩
  | _, _, _, i + 1, .ot g q0 s, e => by
    obtain ⟨l, xs, h1, h2, h3, h4⟩ := Slots.own2ot (i := i) s (by simpa using e)
    exact ⟨l, xs, by rw [q0]; exact List.mem_append_right _ h1, h2, h3, fun T q t => .ot g q0 (h4 T q t)⟩
end
section
variable {c : Ctx} {ρ : List SD} {n : Nat} {P : Hp} {L : List Addr} {H : Hp} {σ : List (Option V)}
theorem Env.ot (E : Env c P L n H σ ρ) {i : Nat} {T : OT} (h : ρ[i]? = some (.ot T)) : ∃ v, σ[i]? = some (some v) ∧ T.R c.pr c.wd c.K (L ++ c.O) H v ∧ (∀ a ∈ T.ls, a ∈ L) ∧ T.ls.Nodup := by
  obtain ⟨Ls, sl, sb⟩ := E.slots
  obtain ⟨L1, L2, v, h1, h2, h3, _⟩ := sl.otAt h
  have nd := sb.nodup E.nd
  rw [h1] at nd
  exact ⟨v, h2, h3, fun a ha => sb.subset (by rw [h1]; exact List.mem_append_right _ (List.mem_append_left _ ha)), (List.nodup_append.mp (List.nodup_append.mp nd).2.1).1⟩
/-- one cell of a structure of one's own changed -/
theorem Env.otUpd (E : Env c P L n H σ ρ) {i : Nat} {T T' : OT} (h : ρ[i]? = some (.ot T)) {l : Addr} {o : HO} (hl : l ∈ T.ls) (e : T'.ls = T.ls) {v : V} (hv : σ[i]? = some (some v)) (t : T'.R c.pr c.wd c.K (L ++ c.O) (upd H l o) v) : Env c P L n (upd H l o) σ (ρ.set i (.ot T')) := by
  obtain ⟨Ls, sl, sb⟩ := E.slots
  obtain ⟨L1, L2, v', h1, h2, h3, h4⟩ := sl.otAt h
  rw [h2] at hv
  cases hv
  have nd := sb.nodup E.nd
  rw [h1] at nd
  have lL : l ∈ L := sb.subset (by rw [h1]; exact List.mem_append_right _ (List.mem_append_left _ hl))
  have hm : l ∈ L ++ c.O := List.mem_append_left _ lL
  have hO : l ∉ c.O := (E.fresh l lL).2
  have bs : Same (hid c.B c.H0) (hid c.B (upd H l o)) := same_upd_old (E.fresh l lL).1 E.base
  have out : ∀ x ∈ L1 ++ L2, x ≠ l := fun x hx q => by
    subst q
    rcases List.mem_append.mp hx with z | z
    · exact (List.nodup_append.mp nd).2.2 _ z _ (List.mem_append_left _ hl) rfl
    · exact (List.nodup_append.mp (List.nodup_append.mp nd).2.1).2.2 _ hl _ z rfl
  have z := (h4 (L ++ c.O) (upd H l o) (fun x hx => upd_ne (out x hx)) (by rw [hid_upd_in hm]; exact Same.refl _)).1 T' t
  exact { nd := E.nd, fresh := E.fresh, slots := ⟨_, z, by rw [e, ← h1]; exact sb⟩,
          lst := fun a ha => by
            by_cases e : a = l
            · exact ⟨_, by rw [e, upd_same]⟩
            · rw [upd_ne e]; exact E.lst a ha,
          bag := fun b q hb => (E.bag b q hb).move (fun o h => by rw [upd_ne fun e : b = l => hO (e ▸ (E.bO b q hb).1)]; exact h) fun o h => by rw [upd_ne fun e : q = l => hO (e ▸ (E.bO b q hb).2.1)]; exact h,
          base := bs, pers := by rw [hid_upd_in hm]; exact E.pers, bO := E.bO,
          al := fun o ho => by rw [upd_ne fun e : o = l => hO (e ▸ ho)]; exact E.al o ho }
/-- a new cell taken for one's own -/
theorem Env.absorb (E : Env c P L n H σ ρ) {n1 : Nat} {H1 : Hp} {p : Addr} {o : HO} (s1 : Same (hid c.B H) (hid c.B H1)) (j1 : c.J n1 H1) (hp : H p = none) (h1 : H1 p = some o) : Env c P (p :: L) n1 H1 σ ρ := by
  have w := E.new hp
  have E1 := E.step s1 j1
  have hs : Same (hid (L ++ c.O) H) (hid (p :: (L ++ c.O)) H1) := fun a o q => by
    obtain ⟨q1, q2⟩ := hid_some.mp q
    have q3 := (hid_some.mp (E.sameLO s1 a o q)).2
    refine hid_some.mpr ⟨fun z => ?_, q3⟩
    rcases List.mem_cons.mp z with z | z
    · subst z; rw [hp] at q2; cases q2
    · exact q1 z
  obtain ⟨Ls, sl0, sb⟩ := E.slots
  exact { nd := List.nodup_cons.mpr ⟨w.2.2, E.nd⟩,
          fresh := fun l hl => by
            rcases List.mem_cons.mp hl with q | q
            · subst q; exact ⟨w.1, w.2.1⟩
            · exact E.fresh l q,
          slots := ⟨Ls, sl0.move (fun l hl => E.own s1 l (sb.subset hl)) hs, sb.cons _⟩,
          lst := fun l hl => by
            rcases List.mem_cons.mp hl with q | q
            · subst q; exact ⟨_, h1⟩
            · exact E1.lst l q,
          bag := j1, base := E1.base, pers := E.pers.trans hs, bO := E.bO, al := E1.al }
/-- the owned in another row -/
theorem Env.perm (E : Env c P L n H σ ρ) {L' : List Addr} (h : L'.Perm L) {Ls : List Addr} {ρ' : List SD} (sl : Slots c.pr c.wd c.K (L ++ c.O) H σ ρ' Ls) (sb : Ls.Sublist L') : Env c P L' n H σ ρ' := by
  have mem : ∀ a, a ∈ L' ++ c.O → a ∈ L ++ c.O := fun a q => by
    rcases List.mem_append.mp q with q | q
    · exact List.mem_append_left _ (h.mem_iff.mp q)
    · exact List.mem_append_right _ q
  exact { nd := h.nodup_iff.mpr E.nd, fresh := fun l hl => E.fresh l (h.mem_iff.mp hl), slots := ⟨Ls, sl.move (fun _ _ => rfl) (same_hid_sub mem), sb⟩,
          lst := fun l hl => E.lst l (h.mem_iff.mp hl), bag := E.bag, base := E.base, pers := E.pers.trans (same_hid_sub mem), bO := E.bO, al := E.al }
/-- given up: read from now on -/
theorem Env.otFreeze (E : Env c P L n H σ ρ) {i : Nat} {l : Addr} {rs : List (Addr × List D)} (h : ρ[i]? = some (.ot (LL l rs))) : ∃ L', Env c P L' n H σ (ρ.set i (.val (.lst (rs.map fun r => .lst r.2)))) ∧ L'.Sublist L := by
  obtain ⟨Ls, sl, sb⟩ := E.slots
  obtain ⟨L1, L2, v, h1, h2, ⟨t1, t2, t3⟩, h4⟩ := sl.otAt h
  subst t1
  have nd := sb.nodup E.nd
  rw [h1] at nd
  have d1 := List.nodup_append.mp nd
  have d2 := List.nodup_append.mp d1.2.1
  have nin : ∀ a ∈ (LL l rs).ls, a ∉ L.filter (fun x => !decide (x ∈ (LL l rs).ls)) := fun a ha q => by
    have := (List.mem_filter.mp q).2
    simp [ha] at this
  have inL : ∀ a ∈ (LL l rs).ls, a ∈ L := fun a ha => sb.subset (by rw [h1]; exact List.mem_append_right _ (List.mem_append_left _ ha))
  have sub : (L.filter (fun x => !decide (x ∈ (LL l rs).ls))).Sublist L := List.filter_sublist
  have nO : ∀ a ∈ (LL l rs).ls, a ∉ L.filter (fun x => !decide (x ∈ (LL l rs).ls)) ++ c.O := fun a ha q => by
    rcases List.mem_append.mp q with q | q
    · exact nin a ha q
    · exact (E.fresh a (inL a ha)).2 q
  have se : Same (hid (L ++ c.O) H) (hid (L.filter (fun x => !decide (x ∈ (LL l rs).ls)) ++ c.O) H) := same_hid_sub fun a ha => by
    rcases List.mem_append.mp ha with q | q
    · exact List.mem_append_left _ (sub.subset q)
    · exact List.mem_append_right _ q
  have sb2 : (L1 ++ L2).Sublist (L.filter (fun x => !decide (x ∈ (LL l rs).ls))) := by
    have q := sb.filter (fun x => !decide (x ∈ (LL l rs).ls))
    rw [h1, List.filter_append, List.filter_append] at q
    have e1 : L1.filter (fun x => !decide (x ∈ (LL l rs).ls)) = L1 := List.filter_eq_self.mpr fun a ha => by
      have : a ∉ (LL l rs).ls := fun z => d1.2.2 a ha a (List.mem_append_left _ z) rfl
      simp [this]
    have e2 : L2.filter (fun x => !decide (x ∈ (LL l rs).ls)) = L2 := List.filter_eq_self.mpr fun a ha => by
      have : a ∉ (LL l rs).ls := fun z => d2.2.2 a z a ha rfl
      simp [this]
    have e3 : (LL l rs).ls.filter (fun x => !decide (x ∈ (LL l rs).ls)) = [] := List.filter_eq_nil_iff.mpr fun a ha => by simp [ha]
    rw [e1, e2, e3] at q
    exact q
  refine ⟨_, { nd := sub.nodup E.nd, fresh := fun l hl => E.fresh l (sub.subset hl), slots := ⟨_, (h4 _ _ (fun _ _ => rfl) se).2 _ (.lst (.inl (by rw [hid_out (nO l List.mem_cons_self)]; exact t2)) ?_), sb2⟩, lst := fun l hl => E.lst l (sub.subset hl), base := E.base, pers := E.pers.trans se, bO := E.bO, al := E.al, bag := E.bag }, sub⟩
  have gen : ∀ us : List (Addr × List D), (∀ r ∈ us, r ∈ rs) → RpAll c.K (hid (L.filter (fun x => !decide (x ∈ (LL l rs).ls)) ++ c.O) H) (us.map fun r => V.ref r.1) (us.map fun r => D.lst r.2) := by
    intro us
    induction us with
    | nil => intro _; exact .nil
    | cons r us ih =>
      intro hu
      obtain ⟨xs, g1, g2⟩ := t3 r (hu r List.mem_cons_self)
      exact .cons (.lst (.inl (by rw [hid_out (nO r.1 (List.mem_cons_of_mem _ (List.mem_map_of_mem (hu r List.mem_cons_self))))]; exact g1)) (g2.mono se)) (ih fun q hq => hu q (List.mem_cons_of_mem _ hq))
  exact gen rs fun _ h => h
end
section
variable {c : Ctx} {ρ : List SD} {n : Nat} {ta tb te tk tj : TE} {t u : TT} {as : TA} {Φ : Nat → D → Prop} {Ψ : Out} {ts us : TS}
theorem ws_freezeLL (i : Nat) {l : Addr} {rs : List (Addr × List D)} (h : ρ[i]? = some (.ot (LL l rs))) (k : WS c ts (ρ.set i (.val (.lst (rs.map fun r => .lst r.2)))) n Ψ) : WS c ts ρ n Ψ := fun P L σ H Dn E A => by
  obtain ⟨L', E', _⟩ := E.otFreeze h
  exact k P L' σ H Dn E' A
theorem wt_lookLL (i : Nat) {Φ : Nat → Bool → Prop} {l : Addr} {rs : List (Addr × List D)} (h : ρ[i]? = some (.ot (LL l rs))) (k : WT c t (ρ.set i (.val (.lst (rs.map fun r => .lst r.2)))) n Φ) : WT c t ρ n Φ := fun P L σ H Q E q => by
  obtain ⟨L', E', sub⟩ := E.otFreeze h
  exact k P L' σ H Q E' fun b n1 H1 s1 j1 k1 => q b n1 H1 s1 j1 k1
theorem we_lookLL (i : Nat) {l : Addr} {rs : List (Addr × List D)} (h : ρ[i]? = some (.ot (LL l rs))) (k : WE c te (ρ.set i (.val (.lst (rs.map fun r => .lst r.2)))) n fun n1 d => scalar d = true ∧ Φ n1 d) : WE c te ρ n Φ := fun P L σ H Q E q => by
  obtain ⟨L', E', sub⟩ := E.otFreeze h
  exact k P L' σ H Q E' fun v d n1 H1 s1 j1 r1 ⟨hs, k1⟩ => q v d n1 H1 s1 j1 (r1.scal hs) k1
/-- an own list without items, read as a list of lists -/
theorem ws_toLL (i : Nat) (h : ρ[i]? = some (.own [])) (k : ∀ l, WS c ts (ρ.set i (.ot (LL l []))) n Ψ) : WS c ts ρ n Ψ := fun P L σ H Dn E A => by
  obtain ⟨Ls, sl, sb⟩ := E.slots
  obtain ⟨l, xs, h1, h2, h3, h4⟩ := sl.own2ot h
  cases h3
  refine k l P L σ H Dn (E.reslot (h4 (LL l []) rfl ⟨rfl, h2, fun r hr => nomatch hr⟩) sb) A
/-- one row more -/
theorem ws_llapp {i : Nat} {l : Addr} {rs : List (Addr × List D)} (h0 : ρ[i]? = some (.ot (LL l rs))) (h : WF c te ρ n fun n1 ds => rs.length < sizeLine ∧ ∀ p, Ψ.nx n1 (ρ.set i (.ot (LL l (rs ++ [(p, ds)]))))) : WS c (tDrop (tBM c.K "list" rAppend (tVar i) (tCons te tNil))) ρ n Ψ := fun P L σ H Dn E A => by
  obtain ⟨v, h1, ⟨t1, t2, t3⟩, _, _⟩ := E.ot h0
  subst t1
  refine ⟨.ref l, h1, .inl ⟨rfl, _, .inl (.inl t2)⟩, ?_⟩
  refine h P L σ H _ E fun p xs ds n1 H1 s1 hp g1 r1 j1 ⟨hz, k⟩ => ?_
  have E1 := E.absorb s1 j1 hp g1
  obtain ⟨Ls, sl, sb⟩ := E1.slots
  obtain ⟨L1, L2, v2, q1, q2, ⟨u1, u2, u3⟩, q4⟩ := sl.otAt h0
  subst u1
  refine ⟨l, _, .ref p, rfl, rfl, u2, by simpa using hz, ?_⟩
  obtain ⟨Ls0, sl0, sb0⟩ := E.slots
  obtain ⟨M1, M2, w2, m1, m2, ⟨x1, x2, x3⟩, m4⟩ := sl0.otAt h0
  have eL : Ls = Ls0 := sl.inj sl0
  subst eL
  have sb1 : Ls.Sublist L := sb0
  have lL : l ∈ L := sb1.subset (by rw [q1]; exact List.mem_append_right _ (List.mem_append_left _ List.mem_cons_self))
  have np : p ∉ L := (E.new hp).2.2
  have hpl : p ≠ l := fun z => np (z ▸ lL)
  have nd := sb1.nodup E.nd
  rw [q1] at nd
  have d1 := List.nodup_append.mp nd
  have d2 := List.nodup_append.mp d1.2.1
  have hm : l ∈ (p :: L) ++ c.O := List.mem_append_left _ (List.mem_cons_of_mem _ lL)
  have hO : l ∉ c.O := (E.fresh l lL).2
  have out : ∀ x ∈ L1 ++ L2, x ≠ l := fun x hx q => by
    subst q
    rcases List.mem_append.mp hx with z | z
    · exact d1.2.2 _ z _ (List.mem_append_left _ List.mem_cons_self) rfl
    · exact d2.2.2 _ List.mem_cons_self _ z rfl
  have rl : ∀ r ∈ rs, r.1 ≠ l := fun r hr z => by
    have : l ∉ rs.map (·.1) := (List.nodup_cons.mp d2.1).1
    exact this (z ▸ List.mem_map_of_mem hr)
  have t' : (LL l (rs ++ [(p, ds)])).R c.pr c.wd c.K ((p :: L) ++ c.O) (upd H1 l (.lst (rs.map (fun r => V.ref r.1) ++ [.ref p]))) (.ref l) := by
    refine ⟨rfl, by rw [upd_same, List.map_append]; rfl, fun r hr => ?_⟩
    rw [hid_upd_in hm]
    rcases List.mem_append.mp hr with q | q
    · obtain ⟨xs, y1, y2⟩ := u3 r q
      exact ⟨xs, by rw [upd_ne (rl r q)]; exact y1, y2⟩
    · have : r = (p, ds) := by simpa using q
      subst this
      exact ⟨xs, by rw [upd_ne hpl]; exact g1, r1⟩
  have z := (q4 ((p :: L) ++ c.O) (upd H1 l (.lst (rs.map (fun r => V.ref r.1) ++ [.ref p]))) (fun x hx => upd_ne (out x hx)) (by rw [hid_upd_in hm]; exact Same.refl _)).1 _ t'
  have e : L1 ++ ((LL l (rs ++ [(p, ds)])).ls ++ L2) = (L1 ++ (LL l rs).ls) ++ p :: L2 := by
    show L1 ++ (l :: (rs ++ [(p, ds)]).map (·.1) ++ L2) = _
    rw [List.map_append]
    show _ = L1 ++ (l :: rs.map (·.1)) ++ p :: L2
    simp
  rw [e] at z
  obtain ⟨Lp, sLp, pLp⟩ := ins_sub (p := p) (L1 := L1 ++ (LL l rs).ls) (L2 := L2) (L := L) (by rw [List.append_assoc, ← q1]; exact sb1)
  have E2 : Env c P (p :: L) n1 (upd H1 l (.lst (rs.map (fun r => V.ref r.1) ++ [.ref p]))) σ (ρ.set i .un) := by
    have bs : Same (hid c.B c.H0) (hid c.B (upd H1 l (.lst (rs.map (fun r => V.ref r.1) ++ [.ref p])))) := same_upd_old (E.fresh l lL).1 E1.base
    obtain ⟨Lu, su, bu⟩ := sl.drop i
    have nl : (L1 ++ L2).Sublist (p :: L) := (List.Sublist.append_left (List.sublist_append_right _ _) L1).trans (q1 ▸ sb)
    have sv := (q4 ((p :: L) ++ c.O) (upd H1 l (.lst (rs.map (fun r => V.ref r.1) ++ [.ref p]))) (fun x hx => upd_ne (out x hx)) (by rw [hid_upd_in hm]; exact Same.refl _)).2 (.adr l) (.adr l)
    obtain ⟨Lv, sv2, bv⟩ := sv.drop i
    rw [List.set_set] at sv2
    exact { nd := E1.nd, fresh := E1.fresh, slots := ⟨Lv, sv2, bv.trans nl⟩,
            lst := fun a ha => by
              by_cases e : a = l
              · exact ⟨_, by rw [e, upd_same]⟩
              · rw [upd_ne e]; exact E1.lst a ha,
            bag := fun b q hb => (E1.bag b q hb).move (fun o h => by rw [upd_ne fun e : b = l => hO (e ▸ (E.bO b q hb).1)]; exact h) fun o h => by rw [upd_ne fun e : q = l => hO (e ▸ (E.bO b q hb).2.1)]; exact h,
            base := bs, pers := by rw [hid_upd_in hm]; exact E1.pers, bO := E.bO,
            al := fun o ho => by rw [upd_ne fun e : o = l => hO (e ▸ ho)]; exact E1.al o ho }
  exact A.nx Lp n1 _ σ _ (E2.perm pLp z sLp) (k p)
theorem ixNN {m k : Nat} (h : k < m) : ixN m (k : Int) = some k := by
  unfold ixN
  rw [if_pos (by omega), if_pos (by omega)]; simp
theorem atIN {α : Type} {xs : List α} {k : Nat} {x : α} (h : xs[k]? = some x) : atI xs (k : Int) = some x := by
  have hk : k < xs.length := by
    rcases Nat.lt_or_ge k xs.length with q | q
    · exact q
    · rw [List.getElem?_eq_none q] at h; cases h
  unfold atI
  rw [ixNN hk]
  exact h
/-- x[i][j] -/
theorem we_llget {i : Nat} {l : Addr} {rs : List (Addr × List D)} (h0 : ρ[i]? = some (.ot (LL l rs))) (h : WE c tk ρ n fun n1 kd => ∃ (k : Nat) (p : Addr) (row : List D), kd = .int (k : Int) ∧ rs[k]? = some (p, row) ∧ WE c tj ρ n1 fun n2 jd => ∃ (j : Nat) (d : D), jd = .int (j : Int) ∧ row[j]? = some d ∧ Φ n2 d) : WE c (tOp (rIx c.K) (tOp (rIx c.K) (tVar i) tk) tj) ρ n Φ := fun P L σ H Q E q => by
  obtain ⟨v, h1, ⟨t1, t2, t3⟩, _, _⟩ := E.ot h0
  subst t1
  refine ⟨.ref l, h1, ?_⟩
  refine h P L σ H _ E fun kv kd n1 H1 s1 j1 r1 ⟨k, p, row, e1, e2, h2⟩ => ?_
  subst e1
  cases r1
  have E1 := E.step s1 j1
  obtain ⟨v, g1, ⟨u1, u2, u3⟩, _, _⟩ := E1.ot h0
  subst u1
  refine .inl ⟨l, _, (k : Int), .ref p, rfl, rfl, .inl (.inl u2), atIN (by rw [List.getElem?_map, e2]; rfl), ?_⟩
  refine h2 P L σ H1 _ E1 fun jv jd n2 H2 s2 j2 r2 ⟨j, d, e3, e4, kk⟩ => ?_
  subst e3
  cases r2
  have E2 := E1.step s2 j2
  obtain ⟨v, f1, ⟨w1, w2, w3⟩, _, _⟩ := E2.ot h0
  obtain ⟨xs, x1, x2⟩ := w3 (p, row) (List.mem_of_getElem? e2)
  obtain ⟨x, y1, y2⟩ := x2.get' e4
  exact .inl ⟨p, xs, (j : Int), x, rfl, rfl, .inl (.inl x1), atIN y1, q x d n2 H2 (s1.trans s2) j2 y2 kk⟩
/-- x[i][j] = e -/
theorem ws_llset {i : Nat} {l : Addr} {rs : List (Addr × List D)} (h0 : ρ[i]? = some (.ot (LL l rs))) (h : WE c te ρ n fun n1 vd => WE c tk ρ n1 fun n2 kd => ∃ (k : Nat) (p : Addr) (row : List D), kd = .int (k : Int) ∧ rs[k]? = some (p, row) ∧ WE c tj ρ n2 fun n3 jd => ∃ j : Nat, jd = .int (j : Int) ∧ j < row.length ∧ Ψ.nx n3 (ρ.set i (.ot (LL l (rs.set k (p, row.set j vd)))))) : WS c (tAsg te (gSub (tOp (rIx c.K) (tVar i) tk) tj rSetL)) ρ n Ψ := fun P L σ H Dn E A => by
  refine h P L σ H _ E fun y vd n1 H1 s1 j1 r1 h1 => ?_
  have E1 := E.step s1 j1
  obtain ⟨v, a1, ⟨t1, t2, t3⟩, _, _⟩ := E1.ot h0
  subst t1
  refine ⟨.ref l, a1, ?_⟩
  refine h1 P L σ H1 _ E1 fun kv kd n2 H2 s2 j2 r2 ⟨k, p, row, e1, e2, h2⟩ => ?_
  subst e1
  cases r2
  have E2 := E1.step s2 j2
  obtain ⟨v, g1, ⟨u1, u2, u3⟩, _, _⟩ := E2.ot h0
  subst u1
  refine .inl ⟨l, _, (k : Int), .ref p, rfl, rfl, .inl (.inl u2), atIN (by rw [List.getElem?_map, e2]; rfl), ?_⟩
  refine h2 P L σ H2 _ E2 fun jv jd n3 H3 s3 j3 r3 ⟨j, e3, hj, kk⟩ => ?_
  subst e3
  cases r3
  have E3 := E2.step s3 j3
  obtain ⟨v, f1, ⟨w1, w2, w3⟩, inL, nd⟩ := E3.ot h0
  subst w1
  have pm : (p, row) ∈ rs := List.mem_of_getElem? e2
  obtain ⟨xs, x1, x2⟩ := w3 (p, row) pm
  refine ⟨p, xs, (j : Int), j, rfl, rfl, x1, ixNN (by rw [x2.length]; exact hj), ?_⟩
  have hk : k < rs.length := by
    rcases Nat.lt_or_ge k rs.length with q | q
    · exact q
    · rw [List.getElem?_eq_none q] at e2; cases e2
  have mapset : (rs.set k (p, row.set j vd)).map (·.1) = rs.map (·.1) := by
    rw [List.map_set]
    apply List.ext_getElem?
    intro m
    rw [List.getElem?_set]
    by_cases hm : k = m
    · subst hm
      rw [if_pos rfl, if_pos (by simpa using hk), List.getElem?_map, e2]; rfl
    · rw [if_neg hm]
  have pl : (LL l rs).ls = l :: rs.map (·.1) := rfl
  rw [pl] at nd
  have np : p ≠ l := fun z => (List.nodup_cons.mp nd).1 (z ▸ List.mem_map_of_mem pm)
  have pin : p ∈ (LL l rs).ls := List.mem_cons_of_mem _ (List.mem_map_of_mem pm)
  have hm : p ∈ L ++ c.O := List.mem_append_left _ (inL p pin)
  refine A.nx L n3 _ σ _ (E3.otUpd (T' := LL l (rs.set k (p, row.set j vd))) h0 pin (by show l :: (rs.set k (p, row.set j vd)).map (·.1) = l :: rs.map (·.1); rw [mapset]) f1 ⟨rfl, ?_, fun r hr => ?_⟩) kk
  · rw [upd_ne np.symm]
    have e : (rs.set k (p, row.set j vd)).map (fun r => V.ref r.1) = rs.map fun r => V.ref r.1 := by
      have := congrArg (List.map V.ref) mapset
      rw [List.map_map, List.map_map] at this
      exact this
    rw [e]; exact w2
  · rw [hid_upd_in hm]
    have rv : Rp c.K (hid (L ++ c.O) H3) y vd := ((r1.mono (E1.sameLO s2)).mono (E2.sameLO s3))
    by_cases hr1 : r.1 = p
    · have : r = (p, row.set j vd) := by
        obtain ⟨m, hm2⟩ := List.mem_iff_getElem?.mp hr
        rw [List.getElem?_set] at hm2
        by_cases q : k = m
        · subst q
          rw [if_pos rfl, if_pos hk] at hm2
          exact (Option.some.inj hm2).symm
        · rw [if_neg q] at hm2
          exfalso
          have nd2 := (List.nodup_cons.mp nd).2
          have hml : m < rs.length := by
            rcases Nat.lt_or_ge m rs.length with z | z
            · exact z
            · rw [List.getElem?_eq_none z] at hm2; cases hm2
          have a1 : (rs.map (·.1))[k]? = some p := by rw [List.getElem?_map, e2]; rfl
          have a2 : (rs.map (·.1))[m]? = some p := by rw [List.getElem?_map, hm2]; show some r.1 = _; rw [hr1]
          have := (List.getElem?_inj (by simpa using hk) nd2).mp (a1.trans a2.symm)
          exact q this
      subst this
      exact ⟨xs.set j y, upd_same, x2.set rv j⟩
    · have hr2 : r ∈ rs := by
        obtain ⟨m, hm2⟩ := List.mem_iff_getElem?.mp hr
        rw [List.getElem?_set] at hm2
        by_cases q : k = m
        · subst q
          rw [if_pos rfl, if_pos hk] at hm2
          cases hm2
          exact absurd rfl hr1
        · rw [if_neg q] at hm2
          exact List.mem_of_getElem? hm2
      obtain ⟨zs, z1, z2⟩ := w3 r hr2
      exact ⟨zs, by rw [upd_ne hr1]; exact z1, z2⟩
end
end L3
/-! L6b: defs that give or take a list of lists of one's own. -/
namespace L3
open PySem L2
abbrev SpecT := Option (Addr × Addr) → Nat → List D → (Nat → List (List D) → Prop) → Prop
def spT (pr : Program) (wd : World) (K : PySem.W.Frag) (S : SpecT) : Sp := fun vs H Q _ => ∃ (O : List Addr) (bag : Option (Addr × Addr)) (n : Nat) (ds : List D) (Φ : Nat → List (List D) → Prop),
  (∀ b q, bag = some (b, q) → BagOk b q n H ∧ b ∈ O ∧ q ∈ O ∧ q ≠ b) ∧ (∀ o ∈ O, H o ≠ none) ∧ RpAll K (hid O H) vs ds ∧ S bag n ds Φ ∧
  ∀ l rs n' H', Same (hid (bag.map (·.1)).toList H) (hid (bag.map (·.1)).toList H') → (∀ b q, bag = some (b, q) → BagOk b q n' H') → (∀ a ∈ (LL l rs).ls, H a = none) → (LL l rs).ls.Nodup → (LL l rs).R pr wd K ((LL l rs).ls ++ O) H' (.ref l) → Φ n' (rs.map (·.2)) → Q (.ref l) H'
abbrev SpecS := Option (Addr × Addr) → Nat → List D → List (List D) → (Nat → D → Prop) → Prop
def spS (pr : Program) (wd : World) (K : PySem.W.Frag) (S : SpecS) : Sp := fun vs H Q _ => ∃ (O : List Addr) (bag : Option (Addr × Addr)) (n : Nat) (us : List V) (ds : List D) (l : Addr) (rs : List (Addr × List D)) (Φ : Nat → D → Prop),
  (∀ b q, bag = some (b, q) → BagOk b q n H ∧ b ∈ O ∧ q ∈ O ∧ q ≠ b) ∧ (∀ o ∈ O, H o ≠ none) ∧ vs = us ++ [.ref l] ∧ RpAll K (hid ((LL l rs).ls ++ O) H) us ds ∧ (LL l rs).ls.Nodup ∧ (∀ a ∈ (LL l rs).ls, a ∉ O) ∧ (LL l rs).R pr wd K ((LL l rs).ls ++ O) H (.ref l) ∧ S bag n ds (rs.map (·.2)) Φ ∧
  ∀ v d n' H', Same (hid ((bag.map (·.1)).toList ++ (LL l rs).ls) H) (hid ((bag.map (·.1)).toList ++ (LL l rs).ls) H') → (∀ b q, bag = some (b, q) → BagOk b q n' H') → Rp K (hid O H') v d → Φ n' d → Q v H'
/-- statements that end by giving a list of lists -/
def WST (c : Ctx) (ts : TS) (ρ : List SD) (n : Nat) (Φ : Nat → List (List D) → Prop) : Prop := ∀ P L σ H Dn, Env c P L n H σ ρ →
  (∀ l rs n' H', Same (hid c.B c.H0) (hid c.B H') → c.J n' H' → (∀ a ∈ (LL l rs).ls, c.H0 a = none) → (LL l rs).ls.Nodup → (LL l rs).R c.pr c.wd c.K ((LL l rs).ls ++ c.O) H' (.ref l) → Φ n' (rs.map (·.2)) → Dn.rt (.ref l) H') → ts Dn σ H
/-- a new list of lists -/
def WTr (c : Ctx) (te : TE) (ρ : List SD) (n : Nat) (Φ : Nat → List (List D) → Prop) : Prop := ∀ P L σ H Q, Env c P L n H σ ρ →
  (∀ l rs n' H', Same (hid c.B H) (hid c.B H') → c.J n' H' → (∀ a ∈ (LL l rs).ls, H a = none) → (LL l rs).ls.Nodup → (LL l rs).R c.pr c.wd c.K ((LL l rs).ls ++ (L ++ c.O)) H' (.ref l) → Φ n' (rs.map (·.2)) → Q (.ref l) H') → te σ H Q
section
variable {c : Ctx} {ρ : List SD} {n : Nat} {ta te tt : TE} {as : TA} {Φ : Nat → D → Prop} {ts us : TS}
theorem wst_seq {Φ : Nat → List (List D) → Prop} (h : WS c ts ρ n { nx := fun n1 ρ1 => WST c us ρ1 n1 Φ, rt := fun _ _ => False }) : WST c (tSeq ts us) ρ n Φ := fun P L σ H Dn E A =>
  h P L σ H _ E { nx := fun L' n1 H1 σ1 ρ1 E1 k => k P L' σ1 H1 Dn E1 A, rt := fun _ _ _ _ _ _ _ k => k.elim, bk := fun _ _ _ _ _ _ k => k.elim, ct := fun _ _ _ _ _ _ k => k.elim }
theorem wst_ret {Φ : Nat → List (List D) → Prop} {i : Nat} {l : Addr} {rs : List (Addr × List D)} (h0 : ρ[i]? = some (.ot (LL l rs))) (k : Φ n (rs.map (·.2))) : WST c (tRet (tVar i)) ρ n Φ := fun P L σ H Dn E A => by
  obtain ⟨v, h1, t, inL, nd⟩ := E.ot h0
  have e := t.1
  subst e
  refine ⟨.ref l, h1, A l rs n H E.base E.bag (fun a ha => (E.fresh a (inL a ha)).1) nd (OT.mv _ t (fun _ _ => rfl) fun _ _ r => r.mono (same_hid_sub fun a ha => ?_)) k⟩
  rcases List.mem_append.mp ha with q | q
  · exact List.mem_append_left _ (inL a q)
  · exact List.mem_append_right _ q
theorem wtr_call {S : SpecT} {XE : XK} {Φ : Nat → List (List D) → Prop} (h : WA c as ρ n fun n1 ds => S c.bag n1 ds Φ) : WTr c (tCall (spT c.pr c.wd c.K S) [] XE as) ρ n Φ := fun P L σ H Q E q => by
  refine h P L σ H _ E fun vs ds n1 H1 s1 j1 r1 k => ?_
  have E1 := E.step s1 j1
  refine ⟨L ++ c.O, c.bag, n1, ds, Φ, fun b q hb => ⟨j1 b q hb, List.mem_append_right _ (E.bO b q hb).1, List.mem_append_right _ (E.bO b q hb).2.1, (E.bO b q hb).2.2⟩, E1.alLO, by rw [List.append_nil]; exact r1, k, fun l rs n2 H2 s2 j2 f nd t kk => ?_⟩
  exact q l rs n2 H2 (s1.trans s2) j2 (fun a ha => E.noneB s1 j1 (f a ha)) nd t kk
theorem we_callS {S : SpecS} {XE : XK} (h : WE c ta ρ n fun n1 d => WTr c tt ρ n1 fun n2 rows => S c.bag n2 [d] rows Φ) : WE c (tCall (spS c.pr c.wd c.K S) [] XE (tCons ta (tCons tt tNil))) ρ n Φ := fun P L σ H Q E q => by
  refine h P L σ H _ E fun x d n1 H1 s1 j1 r1 h1 => ?_
  have E1 := E.step s1 j1
  refine h1 P L σ H1 _ E1 fun l rs n2 H2 s2 j2 f nd t k => ?_
  have E2 := E1.step s2 j2
  have sm : Same (hid (L ++ c.O) H1) (hid ((LL l rs).ls ++ (L ++ c.O)) H2) := fun a o e => by
    obtain ⟨e1, e2⟩ := hid_some.mp e
    refine hid_some.mpr ⟨fun z => ?_, (hid_some.mp (E1.sameLO s2 a o e)).2⟩
    rcases List.mem_append.mp z with z | z
    · rw [f a z] at e2; cases e2
    · exact e1 z
  refine ⟨L ++ c.O, c.bag, n2, [x], [d], l, rs, Φ, fun b q hb => ⟨j2 b q hb, List.mem_append_right _ (E.bO b q hb).1, List.mem_append_right _ (E.bO b q hb).2.1, (E.bO b q hb).2.2⟩, E2.alLO, rfl, .cons (r1.mono sm) .nil, nd, fun a ha => E1.noO a (f a ha), t, k, fun v d n3 H3 s3 j3 r3 kk => ?_⟩
  refine q v d n3 H3 (s1.trans fun a o e => ?_) j3 r3 kk
  obtain ⟨e1, e2⟩ := hid_some.mp e
  have e3 := (hid_some.mp (s2 a o e)).2
  refine hid_some.mpr ⟨e1, (hid_some.mp (s3 a o (hid_some.mpr ⟨fun z => ?_, e3⟩))).2⟩
  rcases List.mem_append.mp z with z | z
  · exact e1 z
  · rw [f a z] at e2; cases e2
end
section
variable {P : Program} {w : World} {K : PySem.W.Frag} {mg : Str → Option Value} {base : Heap}
/-- a def that gives a list of lists of its own -/
theorem fn_T {x qual : Str} {st : Stmt} {f : Addr} {fd : FuncData} {N ps : List Str} {k : Nat} {S : SpecT} (F : Fun K x qual st f fd) (sc : FnScope N ps (defScope st))
    (len : ∀ bag n ds Φ, S bag n ds Φ → ds.length = ps.length)
    (body : ∀ (cdv : Value) (A : Around) (outer : List PySem.Env) (s : Shared) (H : Hp) (E : XK) (O : List Addr) (bag : Option (Addr × Addr)) (n : Nat) (ds : List D) (Φ : Nat → List (List D) → Prop), Room k (A.deeper (PyProof.Rows.envOfC qual (defScope st) s.heap.objs.size f cdv)) → S bag n ds Φ →
      ∃ t, PSs (cxOf CX0 P w K mg base N qual (defScope st) f cdv A outer s H E).nox (defBody st) t ∧ WST ⟨P, w, K, O, bag, H⟩ t (rho N ds) n Φ) :
    FnOk P w K mg base CX0 (k + 1) f fd ps (spT P w K S) := by
  refine F.ok sc (fun vs H Q E h => ?_) (fun cdv A outer s H vs Q E hr h => ?_)
  · obtain ⟨O, bag, n, ds, Φ, _, _, r, hS, _⟩ := h
    rw [r.length]; exact len bag n ds Φ hS
  · obtain ⟨O, bag, n, ds, Φ, hb, hO, r, hS, q⟩ := h
    obtain ⟨t, ht, W⟩ := body cdv A outer s H E O bag n ds Φ hr hS
    refine ⟨t, ht, W (fun _ => none) [] _ H _ ?_ ?_⟩
    · have e : L2.start N vs = vs.map some ++ List.replicate (N.length - ds.length) none := by unfold L2.start; rw [r.length]
      exact { nd := List.nodup_nil, fresh := (fun l hl => nomatch hl), slots := ⟨[], by rw [e]; exact slots_start r, List.Sublist.refl _⟩, lst := (fun l hl => nomatch hl), bag := fun b q e => (hb b q e).1, base := Same.refl _,
              pers := (fun _ _ e => nomatch e), bO := fun b q e => (hb b q e).2, al := hO }
    · exact fun l rs n' H' s j f nd t k => q l rs n' H' s j f nd t k
theorem slots_startS {pr : Program} {wd : World} {O : List Addr} {H : Hp} {m : Nat} {T : OT} {v : V} (t : T.R pr wd K O H v) : ∀ {vs : List V} {ds : List D}, RpAll K (hid O H) vs ds → Slots pr wd K O H ((vs ++ [v]).map some ++ List.replicate m none) (ds.map SD.val ++ .ot T :: List.replicate m .un) T.ls
  | _, _, .nil => .ot t (List.append_nil _).symm (slots_un m)
  | _, _, .cons h r => .val h (slots_startS t r)
/-- a def whose last argument is a list of lists that it may change -/
theorem fn_S {x qual : Str} {st : Stmt} {f : Addr} {fd : FuncData} {N ps : List Str} {k : Nat} {S : SpecS} (F : Fun K x qual st f fd) (sc : FnScope N ps (defScope st))
    (len : ∀ bag n ds rows Φ, S bag n ds rows Φ → ds.length + 1 = ps.length)
    (body : ∀ (cdv : Value) (A : Around) (outer : List PySem.Env) (s : Shared) (H : Hp) (E : XK) (O : List Addr) (bag : Option (Addr × Addr)) (n : Nat) (ds : List D) (l : Addr) (rs : List (Addr × List D)) (Φ : Nat → D → Prop), Room k (A.deeper (PyProof.Rows.envOfC qual (defScope st) s.heap.objs.size f cdv)) → S bag n ds (rs.map (·.2)) Φ →
      ∃ t, PSs (cxOf CX0 P w K mg base N qual (defScope st) f cdv A outer s H E).nox (defBody st) t ∧ WS ⟨P, w, K, O, bag, hid (LL l rs).ls H⟩ t (ds.map SD.val ++ .ot (LL l rs) :: List.replicate (N.length - (ds.length + 1)) .un) n { nx := fun n' _ => Φ n' .non, rt := Φ }) :
    FnOk P w K mg base CX0 (k + 1) f fd ps (spS P w K S) := by
  refine F.ok sc (fun vs H Q E h => ?_) (fun cdv A outer s H vs Q E hr h => ?_)
  · obtain ⟨O, bag, n, us, ds, l, rs, Φ, _, _, e, r, _, _, _, hS, _⟩ := h
    rw [e, List.length_append, r.length]; exact len bag n ds _ Φ hS
  · obtain ⟨O, bag, n, us, ds, l, rs, Φ, hb, hO, e, r, nd, no, t, hS, q⟩ := h
    obtain ⟨tt, ht, W⟩ := body cdv A outer s H E O bag n ds l rs Φ hr hS
    subst e
    have bs : Same (hid (bag.map (·.1)).toList (hid (LL l rs).ls H)) (hid (bag.map (·.1)).toList H) := fun a o e => by
      obtain ⟨e1, e2⟩ := hid_some.mp e
      exact hid_some.mpr ⟨e1, (hid_some.mp e2).2⟩
    have fin : ∀ v d n' H', Same (hid (bag.map (·.1)).toList (hid (LL l rs).ls H)) (hid (bag.map (·.1)).toList H') → (∀ b q, bag = some (b, q) → BagOk b q n' H') → Rp K (hid O H') v d → Φ n' d → Q v H' := fun v d n' H' s j r k => q v d n' H' (fun a o e => by
      obtain ⟨e1, e2⟩ := hid_some.mp e
      have z := s a o (hid_some.mpr ⟨fun z => e1 (List.mem_append_left _ z), hid_some.mpr ⟨fun z => e1 (List.mem_append_right _ z), e2⟩⟩)
      exact hid_some.mpr ⟨e1, (hid_some.mp z).2⟩) j r k
    refine ⟨tt, ht, W (fun _ => none) (LL l rs).ls _ H _ ?_ ?_⟩
    · have e : L2.start N (us ++ [.ref l]) = (us ++ [V.ref l]).map some ++ List.replicate (N.length - (ds.length + 1)) none := by unfold L2.start; rw [List.length_append, r.length]; rfl
      exact { nd := nd, fresh := fun a ha => ⟨hid_in ha, no a ha⟩, slots := ⟨_, by rw [e]; exact slots_startS t r, List.Sublist.refl _⟩, lst := fun a ha => OT.ex _ t a ha, bag := fun b q e => (hb b q e).1, base := bs,
              pers := (fun _ _ e => nomatch e), bO := fun b q e => (hb b q e).2, al := hO }
    · exact { nx := fun L n' H' σ ρ E k => fin .non .non n' H' E.base (fun b q e => E.bag b q e) .non k,
              rt := fun v d n' H' s j r k => fin v d n' H' s j r k, bk := fun _ _ _ _ _ _ k => k.elim, ct := fun _ _ _ _ _ _ k => k.elim }
end
end L3
/-! L6c: == and != of tuples and lists of instances with an own ==, of any lengths. -/
namespace L3U
open PySem PySem.SeqAt GQ
open AutoSeq1 (wpAny_loadPart')
open MeetsSeq MeetsSeq2
open MeetsSeq3 SeqRoads2
section
variable {prog : Program} {w : World} {A : Around} {R : Result → Shared → Prop}
theorem zipAt {us ws : Array Value} {i : Nat} (hlt : i < (us.toList.zip ws.toList).length) : i < us.size ∧ i < ws.size := by
  simp at hlt
  omega
theorem tupEq (l b : Addr) (us ws : Array Value) (n n2 : Nat) (dd dd2 : Option Addr) (sl sl2 : Array (Option Value)) (J : Nat → Shared → Prop)
    (step : ∀ i (h1 : i < us.size) (h2 : i < ws.size) s, J i s → wpAny (model prog w) A.in1 (eqBool us[i] ws[i]) (fun r s' => r = true ∧ J (i + 1) s') (fun e s' => R (.error e) s') s)
    (last : ∀ s, J (min us.size ws.size) s → R (.ok (.ret (.bool (us.size == ws.size)))) s) {s : Shared} (g1 : s.heap.get? l = some { cls := .type "tuple", dict := dd, data := .seq us n, slots := sl }) (g2 : s.heap.get? b = some { cls := .type "tuple", dict := dd2, data := .seq ws n2, slots := sl2 }) (h : J 0 s) :
    wpAny (model prog w) A.in1 (Builtin.«tuple.__eq__» ⟨[.ref l, .ref b], []⟩) (FinOf prog w A R) (fun e s' => R (.error e) s') s := by
  have f2 := AutoSeq1.sub_tuple_tuple
  have zl : (us.toList.zip ws.toList).length = min us.size ws.size := by simp
  have hz0 := h
  obtain ⟨hp, g, d, tk, os⟩ := s
  wp_walk using wpAny_loadPart' g1, wpAny_loadPart' g2, wpAny_forIn_list _ (fun rs b s' => b.1 = none ∧ ∃ i, rs = (us.toList.zip ws.toList).drop i ∧ i ≤ min us.size ws.size ∧ J i s') _
  case turn =>
    rintro ⟨p, q⟩ rs bb s' ⟨hb', i, hz, hi, hJ⟩
    have lt : i < (us.toList.zip ws.toList).length := by
      rcases Nat.lt_or_ge i (us.toList.zip ws.toList).length with z | z
      · exact z
      · rw [List.drop_of_length_le z] at hz; cases hz
    obtain ⟨h1, h2⟩ := zipAt lt
    rw [List.drop_eq_getElem_cons lt] at hz
    injection hz with e1 e2
    have ep : p = us[i] := by have := congrArg Prod.fst e1; simpa using this
    have eq' : q = ws[i] := by have := congrArg Prod.snd e1; simpa using this
    subst ep eq'
    refine wpAny_bind (wpAny_mono (step i h1 h2 s' hJ) (fun r s2 z => ?_) fun _ _ x => x)
    obtain ⟨hr, z⟩ := z
    subst hr
    wp_walk
    exact ⟨rfl, i + 1, e2, by omega, z⟩
  case fin =>
    rintro ⟨b1, b2⟩ s' ⟨hb', i, hz, hi, hJ⟩
    simp only at hb'
    subst hb'
    have ge : min us.size ws.size ≤ i := by
      rcases Nat.lt_or_ge i (us.toList.zip ws.toList).length with z | z
      · rw [List.drop_eq_getElem_cons z] at hz; cases hz
      · exact zl ▸ z
    have ei : i = min us.size ws.size := by omega
    have hR := last s' (ei ▸ hJ)
    wp_walk
    simpa [Builtin.Tuple.tupleCompareSizes] using hR
  case h =>
    exact ⟨rfl, 0, rfl, Nat.zero_le _, hz0⟩
theorem tupNe (l b : Addr) (us ws : Array Value) (n n2 : Nat) (dd dd2 : Option Addr) (sl sl2 : Array (Option Value)) (J : Nat → Shared → Prop)
    (step : ∀ i (h1 : i < us.size) (h2 : i < ws.size) s, J i s → wpAny (model prog w) A.in1 (eqBool us[i] ws[i]) (fun r s' => r = true ∧ J (i + 1) s') (fun e s' => R (.error e) s') s)
    (last : ∀ s, J (min us.size ws.size) s → R (.ok (.ret (.bool (us.size != ws.size)))) s) {s : Shared} (g1 : s.heap.get? l = some { cls := .type "tuple", dict := dd, data := .seq us n, slots := sl }) (g2 : s.heap.get? b = some { cls := .type "tuple", dict := dd2, data := .seq ws n2, slots := sl2 }) (h : J 0 s) :
    wpAny (model prog w) A.in1 (Builtin.«tuple.__ne__» ⟨[.ref l, .ref b], []⟩) (FinOf prog w A R) (fun e s' => R (.error e) s') s := by
  have f2 := AutoSeq1.sub_tuple_tuple
  have zl : (us.toList.zip ws.toList).length = min us.size ws.size := by simp
  have hz0 := h
  obtain ⟨hp, g, d, tk, os⟩ := s
  wp_walk using wpAny_loadPart' g1, wpAny_loadPart' g2, wpAny_forIn_list _ (fun rs b s' => b.1 = none ∧ ∃ i, rs = (us.toList.zip ws.toList).drop i ∧ i ≤ min us.size ws.size ∧ J i s') _
  case turn =>
    rintro ⟨p, q⟩ rs bb s' ⟨hb', i, hz, hi, hJ⟩
    have lt : i < (us.toList.zip ws.toList).length := by
      rcases Nat.lt_or_ge i (us.toList.zip ws.toList).length with z | z
      · exact z
      · rw [List.drop_of_length_le z] at hz; cases hz
    obtain ⟨h1, h2⟩ := zipAt lt
    rw [List.drop_eq_getElem_cons lt] at hz
    injection hz with e1 e2
    have ep : p = us[i] := by have := congrArg Prod.fst e1; simpa using this
    have eq' : q = ws[i] := by have := congrArg Prod.snd e1; simpa using this
    subst ep eq'
    refine wpAny_bind (wpAny_mono (step i h1 h2 s' hJ) (fun r s2 z => ?_) fun _ _ x => x)
    obtain ⟨hr, z⟩ := z
    subst hr
    wp_walk
    exact ⟨rfl, i + 1, e2, by omega, z⟩
  case fin =>
    rintro ⟨b1, b2⟩ s' ⟨hb', i, hz, hi, hJ⟩
    simp only at hb'
    subst hb'
    have ge : min us.size ws.size ≤ i := by
      rcases Nat.lt_or_ge i (us.toList.zip ws.toList).length with z | z
      · rw [List.drop_eq_getElem_cons z] at hz; cases hz
      · exact zl ▸ z
    have ei : i = min us.size ws.size := by omega
    have hR := last s' (ei ▸ hJ)
    wp_walk
    simpa [Builtin.Tuple.tupleCompareSizes] using hR
  case h =>
    exact ⟨rfl, 0, rfl, Nat.zero_le _, hz0⟩
/-- the loop of != over two lists of N items each -/
theorem neLoop (l b : Addr) (N : Nat) (J : Nat → Shared → Prop) (hl : ListI prog w A (fun e s' => R (.error e) s') l b N J) (last : ∀ s, J N s → R (.ok (.ret (.bool false))) s) (k : Nat) :
    ∀ i : Nat, N - i = k → i ≤ N → ∀ s, J i s → wpAny (model prog w) A.in1 (Builtin.«list.__eq__.loop» ⟨[.ref l, .ref b, rawInt i, rawInt 3], []⟩) (FinOf prog w A R) (fun e s' => R (.error e) s') s := by
  induction k with
  | zero =>
    intro i hk hi s h
    obtain ⟨us, ws, n, n2, g1, g2, z1, z2, _⟩ := hl _ _ h
    have ei : i = N := by omega
    have hR := last s (ei ▸ h)
    obtain ⟨hp, g, d, tk, os⟩ := s
    wp_walk using wpAny_loadPart' g1, wpAny_loadPart' g2
    have n1 : us[((i : Nat) : Int).toNat]? = none := by simp; omega
    have n3 : ws[((i : Nat) : Int).toNat]? = none := by simp; omega
    rw [n1, n3]
    wp_walk using wpAny_loadPart' g1, wpAny_loadPart' g2
    show R (.ok (.ret (.bool (us.size != ws.size)))) _
    rw [z1, z2]
    simpa using hR
  | succ k ih =>
    intro i hk hi s h
    obtain ⟨us, ws, n, n2, g1, g2, z1, z2, step⟩ := hl _ _ h
    have lt1 : i < us.size := by omega
    have lt2 : i < ws.size := by omega
    have st := step lt1 lt2
    obtain ⟨hp, g, d, tk, os⟩ := s
    wp_walk using wpAny_loadPart' g1, wpAny_loadPart' g2
    have n1 : us[((i : Nat) : Int).toNat]? = some us[i] := by simp [lt1]
    have n3 : ws[((i : Nat) : Int).toNat]? = some ws[i] := by simp [lt2]
    have ec : ((i : Int) + 1) = ((i + 1 : Nat) : Int) := by omega
    rw [n1, n3]
    refine wpAny_bind (wpAny_mono st (fun r s2 h2 => ?_) fun _ _ x => x)
    obtain ⟨hr, h2⟩ := h2
    subst hr
    have rec' := ih (i + 1) (by omega) (by omega) s2 h2
    obtain ⟨hp2, g2, d2, tk2, os2⟩ := s2
    wp_walk
    rw [ec]
    exact ⟨plainId_quiet plain_eq_loop _, codeAny_builtin entry_eq_loop (by rw [Around.under_plainId plain_eq_loop _]; exact rec')⟩
theorem listNe (l b : Addr) (N : Nat) (J : Nat → Shared → Prop) (hl : ListI prog w A (fun e s' => R (.error e) s') l b N J) (last : ∀ s, J N s → R (.ok (.ret (.bool false))) s) {s : Shared} (h : J 0 s) :
    wpAny (model prog w) A.in1 (Builtin.«list.__ne__» ⟨[.ref l, .ref b], []⟩) (FinOf prog w A R) (fun e s' => R (.error e) s') s := by
  obtain ⟨us, ws, n, n2, g1, g2, z1, z2, _⟩ := hl _ _ h
  have rec' := neLoop (A := A) (R := R) l b N J hl last _ 0 rfl (Nat.zero_le _) s h
  obtain ⟨hp, g, d, tk, os⟩ := s
  have f3 := AutoSeq1.sub_list_list
  have hne : ¬ (us.size != ws.size) = true := by simp [z1, z2]
  wp_walk using wpAny_loadPart' g1, wpAny_loadPart' g2
  exact ⟨plainId_quiet plain_eq_loop _, codeAny_builtin entry_eq_loop (by rw [Around.under_plainId plain_eq_loop _]; exact rec')⟩
end
section
variable {prog : Program} {w : World} {A : Around} {E : Value → Shared → Prop} {s : Shared}
theorem rcTup {op : CmpOp} {l b : Addr} {us ws : Array Value} {Q : Value → Shared → Prop} (ho : op = .Eq ∨ op = .NotEq) (hu : A.units < cLine) (J : Nat → Shared → Prop) (hl : s.heap.IsTuple l us) (hb : s.heap.IsTuple b ws)
    (step : ∀ i (h1 : i < us.size) (h2 : i < ws.size) s, J i s → wpAny (model prog w) A.in1 (eqBool us[i] ws[i]) (fun r s' => r = true ∧ J (i + 1) s') E s)
    (last : ∀ s, J (min us.size ws.size) s → Q (.bool (if op = .Eq then us.size == ws.size else us.size != ws.size)) s) (h : J 0 s) : wpAny (model prog w) A (richCompare op (.ref l) (.ref b)) Q E s := by
  obtain ⟨⟨c1, dd, da1, sl⟩, o1, e1, n, f1⟩ := id hl
  obtain ⟨⟨c2, dd2, da2, sl2⟩, o2, e2, n2, f2⟩ := id hb
  simp only at e1 f1 e2 f2
  subst e1 f1 e2 f2
  rcases ho with ho | ho
  · subst ho
    refine wpAny_richCompare_same_room (op := .Eq) ⟨_, o1, rfl⟩ ⟨_, o2, rfl⟩ F.slot_tuple_eq (call_here F.slot_tuple_eq ⟨_, o1, rfl⟩ F.entry_tuple_eq (F.args_tuple_eq_2 _ _) ?_) hu
    exact tupEq (R := wants (fun v s' => v ≠ .notImplemented ∧ Q v s') E) l b us ws n n2 dd dd2 sl sl2 J step (fun s' q => ⟨(fun x => nomatch x), by simpa using last s' q⟩) o1 o2 h
  · subst ho
    refine wpAny_richCompare_same_room (op := .NotEq) ⟨_, o1, rfl⟩ ⟨_, o2, rfl⟩ F.slot_tuple_ne (call_here F.slot_tuple_ne ⟨_, o1, rfl⟩ F.entry_tuple_ne (F.args_tuple_ne_2 _ _) ?_) hu
    exact tupNe (R := wants (fun v s' => v ≠ .notImplemented ∧ Q v s') E) l b us ws n n2 dd dd2 sl sl2 J step (fun s' q => ⟨(fun x => nomatch x), by simpa using last s' q⟩) o1 o2 h
theorem rcListNe {l b : Addr} {N : Nat} {Q : Value → Shared → Prop} (hu : A.units < cLine) (J : Nat → Shared → Prop) (hl : ListI prog w A E l b N J)
    (last : ∀ s, J N s → Q (.bool false) s) (h : J 0 s) : wpAny (model prog w) A (richCompare .NotEq (.ref l) (.ref b)) Q E s := by
  obtain ⟨us, ws, n, n2, g1, g2, _, _, _⟩ := hl _ _ h
  refine wpAny_richCompare_same_room (op := .NotEq) ⟨_, g1, rfl⟩ ⟨_, g2, rfl⟩ F.slot_list_ne (call_here F.slot_list_ne ⟨_, g1, rfl⟩ F.entry_list_ne (F.args_list_ne_2 _ _) ?_) hu
  exact listNe (R := wants (fun v s' => v ≠ .notImplemented ∧ Q v s') E) l b N J hl (fun s' q => ⟨(fun x => nomatch x), last s' q⟩) h
end
end L3U

namespace L3
open PySem L2
section
variable {X : Cx} {Dq : Eqv}
/-- item by item, as far as both go -/
def PrsU (Dq : Eqv) (xs ys : List V) (H : Hp) : Prop := ∀ (i : Nat) x y, xs[i]? = some x → ys[i]? = some y → Dq x y H
theorem turnU {m : Nat} (hD : Mon Dq) (h : EqG X m Dq) {A : Around} (sb : Sub X (m + 1) A) {pins : List (Addr × Obj)} {σ : L2.St} {H : Hp} {xs ys : List V} {us ws : List Value} (p : PrsU Dq xs ys H) (r : Vals xs us) (r2 : Vals ys ws)
    (i : Nat) (h1 : i < us.toArray.size) (h2 : i < ws.toArray.size) (s' : Shared) (q : LoopI X pins σ H s') :
    wpAny (model X.prog X.w) A.in1 (eqBool us.toArray[i] ws.toArray[i]) (fun r s2 => r = true ∧ LoopI X pins σ H s2) X.xe s' := by
  obtain ⟨H1, I1, e1⟩ := q
  have l1 : i < us.length := by simpa using h1
  have l2 : i < ws.length := by simpa using h2
  have g1 : us[i]? = some us.toArray[i] := by rw [List.getElem?_eq_getElem l1] <;> simp
  have g2 : ws[i]? = some ws.toArray[i] := by rw [List.getElem?_eq_getElem l2] <;> simp
  obtain ⟨u, hu, ru⟩ := r.get (List.getElem?_eq_getElem (by rw [r.length]; exact l1))
  obtain ⟨v, hv, rv⟩ := r2.get (List.getElem?_eq_getElem (by rw [r2.length]; exact l2))
  rw [g1] at hu
  rw [g2] at hv
  rw [Option.some.inj hu, Option.some.inj hv]
  refine wpAny_mono (h A.in1 pins s' σ H1 _ _ u v sb.in1 I1 ru rv (hD _ _ _ _ e1 (p i _ _ (List.getElem?_eq_getElem _) (List.getElem?_eq_getElem _)))) (fun r s2 z => ?_) fun _ _ x => x
  obtain ⟨hr, H2, I2, e2⟩ := z
  exact ⟨hr, H2, I2, e1.trans e2⟩
/-- == (neg: !=) of two tuples, equal item by item as far as both go -/
def rTupU (K : PySem.W.Frag) (neg : Bool) (Dq : Eqv) : R2 := fun x y H Q => ∃ a b xs ys, x = .ref a ∧ y = .ref b ∧ SqT K H a xs ∧ SqT K H b ys ∧ PrsU Dq xs ys H ∧ ∀ H', Ext H H' → Q (.bl (if neg then xs.length != ys.length else xs.length == ys.length)) H'
theorem op_tupU {m : Nat} (hD : Mon Dq) (h : EqG X m Dq) (hr : Room (m + 1) X.A) (neg : Bool) : OpR X (compareOp (if neg then .NotEq else .Eq)) (rTupU X.K neg Dq) := by
  intro pins s σ H x y v u Q I rx ry hq
  obtain ⟨a, b, xs, ys, rfl, rfl, ha, hb, p, q⟩ := hq
  cases rx
  cases ry
  obtain ⟨us, r, e, z⟩ := I.tuple ha
  obtain ⟨ws, r2, e2, z2⟩ := I.tuple hb
  have sb : Sub X (m + 1) X.A := ⟨hr, rfl⟩
  cases neg with
  | true =>
    show wpAny (model X.prog X.w) X.A (richCompare .NotEq (.ref a) (.ref b)) (EP X pins σ Q) X.xe s
    refine L3U.rcTup (op := .NotEq) (.inr rfl) sb.room.units0 (fun _ s' => LoopI X pins σ H s') e e2 (fun i h1 h2 s' l => turnU hD h sb p r r2 i h1 h2 s' l) (fun s' l => ?_) ⟨H, I, Ext.rfl'⟩
    obtain ⟨H', I', e'⟩ := l
    refine ⟨.bl _, H', I', ?_, q H' e'⟩
    rw [if_pos rfl, if_neg (by decide), List.size_toArray, List.size_toArray, ← r.length, ← r2.length]; rfl
  | false =>
    show wpAny (model X.prog X.w) X.A (richCompare .Eq (.ref a) (.ref b)) (EP X pins σ Q) X.xe s
    refine L3U.rcTup (op := .Eq) (.inl rfl) sb.room.units0 (fun _ s' => LoopI X pins σ H s') e e2 (fun i h1 h2 s' l => turnU hD h sb p r r2 i h1 h2 s' l) (fun s' l => ?_) ⟨H, I, Ext.rfl'⟩
    obtain ⟨H', I', e'⟩ := l
    refine ⟨.bl _, H', I', ?_, q H' e'⟩
    rw [if_neg Bool.false_ne_true, if_pos rfl, List.size_toArray, List.size_toArray, ← r.length, ← r2.length]; rfl
/-- != of two lists, equal item by item -/
def rLstN (Dq : Eqv) : R2 := fun x y H Q => ∃ a b xs ys, x = .ref a ∧ y = .ref b ∧ Rd H a (.lst xs) ∧ Rd H b (.lst ys) ∧ Prs Dq xs ys H ∧ ∀ H', Ext H H' → Q (.bl false) H'
theorem op_lstN {m : Nat} (hD : Mon Dq) (h : EqG X m Dq) (hr : Room (m + 1) X.A) : OpR X (compareOp .NotEq) (rLstN Dq) := by
  intro pins s σ H x y v u Q I rx ry hq
  obtain ⟨a, b, xs, ys, rfl, rfl, ha, hb, p, q⟩ := hq
  cases rx
  cases ry
  have sb : Sub X (m + 1) X.A := ⟨hr, rfl⟩
  show wpAny (model X.prog X.w) X.A (richCompare .NotEq (.ref a) (.ref b)) (EP X pins σ Q) X.xe s
  refine L3U.rcListNe (N := xs.length) sb.room.units0 (fun _ s' => LoopI X pins σ H s') (fun i s' l => ?_) (fun s' l => ?_) ⟨H, I, Ext.rfl'⟩
  · obtain ⟨H1, I1, e1⟩ := id l
    obtain ⟨us, k, r, e, _⟩ := inv_rdL I1 (same_rd e1 ha)
    obtain ⟨ws, k2, r2, e2, _⟩ := inv_rdL I1 (same_rd e1 hb)
    exact ⟨us.toArray, ws.toArray, k, k2, e, e2, by rw [List.size_toArray, ← r.length], by rw [List.size_toArray, ← r2.length, ← p.1], fun h1 h2 => turnU hD h sb p.2 r r2 i h1 h2 s' l⟩
  · obtain ⟨H', I', e'⟩ := l
    exact ⟨.bl false, H', I', rfl, q H' e'⟩
end
section
variable {K : PySem.W.Frag} {C : Addr} {good : List (Str × D) → Prop}
/-- == and != of tuples, != of lists, of instances with an own == -/
def rOwnTU (K : PySem.W.Frag) (neg : Bool) (C : Addr) (good : List (Str × D) → Prop) : R2 := fun x y H Q => ∃ O, rTupU K neg (DIns C (okE2 K O C good)) x y H Q
def rOwnLN (K : PySem.W.Frag) (C : Addr) (good : List (Str × D) → Prop) : R2 := fun x y H Q => ∃ O, rLstN (DIns C (okE2 K O C good)) x y H Q
variable {X : Cx} {n f : Nat} {fd : FuncData} {ps : List Str} {S : L3.Spec} {E : XK}
theorem op_ownTE (F : FnOk X.prog X.w X.K X.mg X.base CX0 n f fd ps (spD X.K S)) (hS : ∀ ks, good ks → S none 0 [.obj C ks, .obj C ks] fun _ r => r = .bl true) (T : OwnEqT X.K C f) (hr : Room (n + 1) X.A) (hb : Binds X.K fd ps []) (hx : Passes CX0 X E) : OpR X (compareOp .Eq) (rOwnTU X.K false C good) := by
  intro pins s σ H x y v u Q I rx ry ⟨O, d⟩
  exact op_tupU (mon_ins okE2_mon) (eqG_ins (fn_eq2 (O := O) F hS) T.eq T.fn hb hx) hr false pins s σ H x y v u Q I rx ry d
theorem op_ownTNe (F : FnOk X.prog X.w X.K X.mg X.base CX0 n f fd ps (spD X.K S)) (hS : ∀ ks, good ks → S none 0 [.obj C ks, .obj C ks] fun _ r => r = .bl true) (T : OwnEqT X.K C f) (hr : Room (n + 1) X.A) (hb : Binds X.K fd ps []) (hx : Passes CX0 X E) : OpR X (compareOp .NotEq) (rOwnTU X.K true C good) := by
  intro pins s σ H x y v u Q I rx ry ⟨O, d⟩
  exact op_tupU (mon_ins okE2_mon) (eqG_ins (fn_eq2 (O := O) F hS) T.eq T.fn hb hx) hr true pins s σ H x y v u Q I rx ry d
theorem op_ownLNe (F : FnOk X.prog X.w X.K X.mg X.base CX0 n f fd ps (spD X.K S)) (hS : ∀ ks, good ks → S none 0 [.obj C ks, .obj C ks] fun _ r => r = .bl true) (T : OwnEqT X.K C f) (hr : Room (n + 1) X.A) (hb : Binds X.K fd ps []) (hx : Passes CX0 X E) : OpR X (compareOp .NotEq) (rOwnLN X.K C good) := by
  intro pins s σ H x y v u Q I rx ry ⟨O, d⟩
  exact op_lstN (mon_ins okE2_mon) (eqG_ins (fn_eq2 (O := O) F hS) T.eq T.fn hb hx) hr pins s σ H x y v u Q I rx ry d
theorem rp_prsU {O : List Addr} {H : Hp} (hO : ∀ o ∈ O, H o ≠ none) {vs ws : List V} {ds es : List D} (hg : ∀ (i : Nat) d e, ds[i]? = some d → es[i]? = some e → ∃ ks, d = .obj C ks ∧ e = .obj C ks ∧ good ks) (r : RpAll K (hid O H) vs ds) (r2 : RpAll K (hid O H) ws es) : PrsU (DIns C (okE2 K O C good)) vs ws H := fun i x y h1 h2 => by
  obtain ⟨d, d1, rd⟩ := r.get h1
  obtain ⟨e, d2, re⟩ := r2.get h2
  obtain ⟨ks, e1, e2, g⟩ := hg i d e d1 d2
  subst e1; subst e2
  cases id rd with
  | obj g1 f1 =>
    cases id re with
    | obj g2 f2 => exact ⟨_, _, _, _, _, _, rfl, rfl, (hid_some.mp g1).2, (hid_some.mp g2).2, hO, ks, g, rd, re⟩
theorem r2_ownTU {neg : Bool} {ds es : List D} {Φ : D → Prop} (hg : ∀ (i : Nat) d e, ds[i]? = some d → es[i]? = some e → ∃ ks, d = .obj C ks ∧ e = .obj C ks ∧ good ks) (k : Φ (.bl (if neg then ds.length != es.length else ds.length == es.length))) : R2D K (rOwnTU K neg C good) (.tup ds) (.tup es) Φ := fun O H x y Q rx ry no q => by
  cases rx with
  | tup h1 r1 =>
    cases ry with
    | tup h2 r2 =>
      exact ⟨O, _, _, _, _, rfl, rfl, same_t same_hid h1, same_t same_hid h2, rp_prsU (fun o ho e => no o e ho) hg r1 r2, fun H' e => q _ _ H' e (.bl _) (by rw [r1.length, r2.length]; exact k)⟩
theorem r2_ownLN {ds : List D} {Φ : D → Prop} (hg : ∀ d ∈ ds, ∃ ks, d = .obj C ks ∧ good ks) (k : Φ (.bl false)) : R2D K (rOwnLN K C good) (.lst ds) (.lst ds) Φ := fun O H x y Q rx ry no q => by
  cases rx with
  | lst h1 r1 =>
    cases ry with
    | lst h2 r2 =>
      exact ⟨O, _, _, _, _, rfl, rfl, same_rd same_hid h1, same_rd same_hid h2, rp_prs (fun o ho e => no o e ho) hg r1 r2, fun H' e => q _ _ H' e (.bl _) k⟩
end
end L3
/-! L6d: `in` where a dict is asked for. -/
namespace L3U
open PySem PySem.SeqAt GQ
open AutoSeq1 (wpAny_loadPart')
open MeetsSeq MeetsSeq2
open MeetsSeq3 SeqRoads2
section
variable {A : Around} {s : Shared}
theorem strRef (b : Str) (u : Tok) (l : Addr) (c : Value) (es : Array DictEntry) (ep : Nat) (dd : Option Addr) (sl : Array (Option Value)) :
    Meets (Builtin.«str.__eq__» ⟨[.str b u, .ref l], []⟩) (fun _ R s => s.heap.get? l = some { cls := c, dict := dd, data := .dict es ep, slots := sl } ∧ R (.ok (.ret .notImplemented)) s) :=
  .of_wp fun prog w A R s h => by
    obtain ⟨hp, g, d, tk, os⟩ := s
    obtain ⟨h1, h2⟩ := h
    wp_walk using wpAny_loadPart' h1, wpAny_load h1
    exact ⟨_, rfl, h2⟩
theorem dictStr (l : Addr) (b : Str) (u : Tok) (es : Array DictEntry) (ep : Nat) (dd : Option Addr) (sl : Array (Option Value)) :
    Meets (Builtin.«dict.__eq__» ⟨[.ref l, .str b u], []⟩) (fun _ R s => s.heap.get? l = some { cls := .type "dict", dict := dd, data := .dict es ep, slots := sl } ∧ R (.ok (.ret .notImplemented)) s) :=
  .of_wp fun prog w A R s h => by
    obtain ⟨hp, g, d, tk, os⟩ := s
    obtain ⟨h1, h2⟩ := h
    have f1 := F.sub_str_dict
    wp_walk using wpAny_loadPart' h1, wpAny_load h1
    exact ⟨_, rfl, h2⟩
theorem rcStrDict {l : Addr} {o : Obj} {es : Array DictEntry} {ep : Nat} (b : Str) (u : Tok) (ho : s.heap.get? l = some o) (hc : o.ExactDict) (hd : o.data = .dict es ep) (hu : A.units < cLine) : RcAt A s (.str b u) (.ref l) false := fun prog w E Q h => by
  obtain ⟨c, dd, da, sl⟩ := o
  obtain ⟨h1, h2, h3⟩ := hc
  simp only at h1 h2 h3 hd
  subst h1 h2 h3 hd
  exact rc_eq_decline_or (k := false) (typeIs_str s b u) ⟨_, ho, rfl⟩ (by decide) F.sub_dict_str F.slot_str_eq F.slot_dict_eq_refl
    (fun _ hq => call_meets F.slot_str_eq (typeIs_str s b u) F.entry_str_eq (F.args_str_eq_2 _ _) (strRef b u l (.type "dict") es ep none #[]) ⟨ho, hq⟩)
    (fun _ hq => call_meets F.slot_dict_eq_refl ⟨_, ho, rfl⟩ F.entry_dict_eq (F.args_dict_eq_2 _ _) (dictStr l b u es ep none #[]) ⟨ho, hq⟩)
    (fun _ hq => wpAny_of_eq (rfl : isSame (.str b u) (.ref l) = pure false) hq) (.inr hu) h
theorem eqStrDict {l : Addr} {o : Obj} {es : Array DictEntry} {ep : Nat} (b : Str) (u : Tok) (ho : s.heap.get? l = some o) (hc : o.ExactDict) (hd : o.data = .dict es ep) (hu : A.units < cLine) : EqAt A s (.str b u) (.ref l) false := fun prog w E Q h => by
  unfold eqBool
  refine wpAny_holding (wpAny_ite_split (fun hab => absurd (eq_of_beq hab) nofun) fun _ => ?_)
  exact wpAny_bind (rcStrDict b u ho hc hd hu prog w E _ (wpAny_truthy_bool h))
end
end L3U
namespace L3
open PySem L2
/-- x not in xs, where x is a dict and xs are texts -/
def rNoDct (K : PySem.W.Frag) : R2 := fun x y H Q => ∃ a kvs l xs, x = .ref a ∧ Rd H a (.dK kvs) ∧ y = .ref l ∧ SqL K H l xs ∧ (∀ v ∈ xs, ∃ z, v = .str z) ∧ Q (.bl true) H
theorem vals_str : ∀ {xs : List V} {us : List Value}, Vals xs us → (∀ v ∈ xs, ∃ z, v = .str z) → ∀ u ∈ us, ∃ z t, u = .str z t
  | _, _, .nil, _, u, h => nomatch h
  | _, _, .cons r t, hs, u, h => by
    rcases List.mem_cons.mp h with q | q
    · subst q
      obtain ⟨z, e⟩ := hs _ List.mem_cons_self
      subst e
      obtain ⟨t, q⟩ := (show ∃ t, _ = Value.str z t from r)
      exact ⟨z, t, q⟩
    · exact vals_str t (fun v hv => hs v (List.mem_cons_of_mem _ hv)) u q
theorem op_noDct {X : Cx} (hu : X.A.units + 65 < cLine) : OpR X (compareOp .NotIn) (rNoDct X.K) := by
  intro pins s σ H x y v u Q I rx ry h
  obtain ⟨a, kvs, l, xs, rfl, ha, rfl, hl, hs, q⟩ := h
  cases rx
  cases ry
  obtain ⟨us, r, e, z⟩ := I.list hl
  have hd : ∃ o es ep, s.heap.get? a = some o ∧ o.ExactDict ∧ o.data = .dict es ep := by
    rcases ha with ha | ⟨ob, ha⟩
    · obtain ⟨_, _, vs, _, o, es, ep, h1, h2, h3, _⟩ := (show ObjOk X.prog X.w H s.heap a (.dK kvs) from I.hok a _ ha)
      exact ⟨o, es, ep, h1, h2, h3⟩
    · obtain ⟨_, _, _, vs, _, o, es, ep, h1, h2, h3, _⟩ := (show ObjOk X.prog X.w H s.heap a (.frz ob (.dK kvs)) from I.hok a _ ha)
      exact ⟨o, es, ep, h1, h2, h3⟩
  obtain ⟨o, es, ep, h1, h2, h3⟩ := hd
  refine SeqAt.notIn_listAt (fun _ => false) e.isList (fun y hy => ?_) ⟨.bl true, H, I, ?_, q⟩
  · obtain ⟨z, t, e⟩ := vals_str r hs y (by simpa using hy)
    subst e
    have e9 : X.A.in1.units ≤ X.A.units + 1 := by simp [Around.in1]
    exact L3U.eqStrDict z t h1 h2 h3 (Nat.lt_of_le_of_lt e9 (by omega))
  · show Value.bool (!us.toArray.any fun _ => false) = .bool true
    simp
/-- not in: plain data, or a dict among texts -/
def rNotInX (K : PySem.W.Frag) : R2 := fun x y H Q => rInS K true x y H Q ∨ rNoDct K x y H Q
theorem x_notInX {X : Cx} (K : PySem.W.Frag) (hu : X.A.units + 65 < cLine) (hK : X.K = K := by rfl) : OpR X (compareOp .NotIn) (rNotInX K) := hK ▸ (op_notInSeq hu).or (op_noDct hu)
theorem r2_notInX {K : PySem.W.Frag} {Φ : D → Prop} {d e : D} {ds : List D} (hs : seqD e = some ds) (hd : fit d = true) (he : fit (.lst ds) = true) (k : Φ (.bl (!inD d ds))) : R2D K (rNotInX K) d e Φ := fun O H x y Q rx ry no q => .inl (r2_notIn hs hd he k O H x y Q rx ry no q)
theorem r2_noDct {K : PySem.W.Frag} {Φ : D → Prop} {kvs : List (L2.Key × D)} {ns : List Str} (k : Φ (.bl true)) : R2D K (rNotInX K) (.dct kvs) (.lst (ns.map .str)) Φ := fun O H x y Q rx ry no q => .inr <| by
  cases rx with
  | dct h1 r1 =>
    cases ry with
    | lst h2 r2 =>
      refine ⟨_, _, _, _, rfl, same_rd same_hid h1, rfl, .inl (same_rd same_hid h2), fun v hv => ?_, q _ _ H (Same.refl _) (.bl _) k⟩
      obtain ⟨i, hi⟩ := List.mem_iff_getElem?.mp hv
      obtain ⟨d, hd, rd⟩ := r2.get hi
      obtain ⟨z, _, e, _, _⟩ := map_at hd
      subst e
      cases rd
      exact ⟨z, rfl⟩
end L3
/-! L6e: errors as values: made, asked for their class, read. -/
namespace L3U
open PySem PySem.W PySem.Calls PyProof.Rows L2
section
variable {prog : Program} {w : World} {A : Around} {E : Value → Shared → Prop} {K : Frag} {x D : Addr} {ox od : Obj}
/-- x.__class__ of an error with a dict -/
theorem erCls (T : ExcC K D) {s : Shared} (X : K.In s.heap) (I : InstAt s.heap x ox D (some od)) {Q : Option Value → Shared → Prop} (k : Q (some (.ref D)) { s with toks := s.toks + 1 }) : wpAny (model prog w) A (getAttr? (.ref x) "__class__") Q E s := by
  have T1 := T.hg; have T2 := T.hk; have T3 := T.hs; have T4 := T.ha; have T5 := T.hn; have T6 := T.ht; have T7 := T.hm
  have fo : findObj K D (some od) "__class__" = some (.bind (.builtin "getset_descriptor.__get__") (.builtin "object.__class__")) := by
    obtain ⟨cd, hc, _⟩ := any_some T.hd
    simp [findObj, hc, T4, T5, T6]
  obtain ⟨hp, gg, dr, tk, os⟩ := s
  have ty := I.type (M := model prog w)
  have ga := looks_findIn (M := model prog w) X T1
  have gt := looks_findIn (M := model prog w) X T2
  have fd := looks_find (M := model prog w) X I fo
  have be : Looks (model prog w) hp (isInstance (Value.ref x) (.type "BaseException")) true := ty.andThen (looks_subIn (M := model prog w) X T3)
  have ne : (Value.builtin "BaseException.__getattribute__" == Value.builtin "object.__getattribute__") = false := by decide +kernel
  have no : (onTheHeap (Value.ref D) && Value.builtin "BaseException.__getattribute__" == Value.builtin "object.__getattribute__") = false := (congrArg _ ne).trans (Bool.and_false _)
  have nt : ¬ (false = true) := Bool.false_ne_true
  unfold getAttr? getAttrBy? getAttrBy
  refine wpAny_bind <| wpAny_mkText <| wpAny_bind <| wpAny_attempt <| wpAny_holding <| wpAny_bind <| ty.at <| wpAny_bind <| ga.at ?_
  show wpAny _ _ (ite ((onTheHeap (.ref D) && Value.builtin "BaseException.__getattribute__" == Value.builtin "object.__getattribute__") = true) _ _) _ _ _
  rw [no, if_neg nt]
  unfold getAttrByItsOwn hookBefore
  refine wpAny_bind ?_
  have on : onTheHeap (Value.ref D) = true := rfl
  rw [if_pos on]
  refine gt.at <| wpAny_bind <| wpAny_attempt <| wpAny_holding ?_
  unfold callGetattribute
  have no2 : (false && onTheHeap (Value.builtin "BaseException.__getattribute__")) = false := rfl
  rw [no2, if_neg nt]
  unfold boundAndCalled
  rw [PySem.F.excAttr_ValueError.ga.bind (.ref x)]
  refine wpAny_bind (wpAny_pure ?_)
  show wpAny _ _ (call (.builtin "BaseException.__getattribute__") [.ref x, .str "__class__" tk]) _ _ _
  refine wpAny_call (codeAny_call_builtin PySem.F.excAttr_ValueError.ga.plain PySem.F.entry_bexc_ga ?_)
  refine check_slot (M := model prog w) (s := ⟨hp, gg, dr, tk + 1, os⟩) (i := "BaseException.__getattribute__") (owner := "BaseException") (n := "__getattribute__") (self := .ref x) (rest := [.str "__class__" tk]) (kw := []) (by decide +kernel) (by decide +kernel) be (PySem.F.args_bexc_ga (.ref x) (.str "__class__" tk)) ?_
  unfold Builtin.«object.__getattribute__»
  refine wpAny_bind <| wpAny_of_eq (a := ((Value.ref x : Value), [Value.str "__class__" tk])) (by first | rfl | (simp only [slotArgs]; rfl)) <| wpAny_bind <| wpAny_pure <| wpAny_bind <| ty.at <| wpAny_bind <| fd.at ?_
  refine wpAny_bind <| wpAny_holding <| wpAny_call <| class_get (s := ⟨hp, gg, dr, tk + 1, os⟩) X I T7 <| wpAny_pure <| wpAny_pure ?_
  exact wpAny_pure k
theorem kitEr (T : ExcC K D) (hq : kitCls K (.ref D) (.ref D) = some true) : KitX K (.ref x) (.ref D) fun h => InstAt h x ox D (some od) where
  ty := fun _ _ _ I => I.type
  it := fun _ _ X _ => (kit_cls X hq).2.1
  ne := fun h tp dd its n sl X htp => Bool.eq_false_iff.mpr fun q => by
    obtain rfl : D = tp := by simpa using q
    have hd := T.hd
    cases ho : K.lookup D with
    | none => simp [hasDictIn, clsIn, ho] at hd
    | some o =>
      have z := (X _ _ ho).symm.trans htp
      cases z
      simp [hasDictIn, clsIn, ho] at hd
  ca := fun X I k => erCls T X I k
end
end L3U
namespace L3
open PySem L2
/-- what the written part says of an error's class, so that isinstance asks it rightly -/
structure ErC (K : PySem.W.Frag) (C : Addr) : Prop where
  ec : ExcC K C
  self : PySem.W.kitCls K (.ref C) (.ref C) = some true
section
variable {X : Cx} {pins : List (Addr × Obj)} {σ : L2.St} {H : Hp} {s : Shared} {a C dx : Addr} {fs : List (Str × V)}
theorem er_at (I : Inv X pins σ H s) (h1 : Rd H a (exo a C (some dx))) (h2 : Rd H dx (exd dx fs)) : ∃ ox od, PySem.W.InstAt s.heap a ox C (some od) ∧ ∀ f v, fs.lookup f = some v → ∃ u, PySem.W.lookIn f od = some (some u) ∧ RelV v u := by
  obtain ⟨t1, ho⟩ := (show ObjOk X.prog X.w H s.heap a (.ext _) from h1.ok I.hok).1
  obtain ⟨mA, hns, rel⟩ := (show ObjOk X.prog X.w H s.heap dx (.ext _) from h2.ok I.hok).1
  obtain ⟨od, hod, hl⟩ := lookIn_ns hns
  refine ⟨_, od, ⟨ho, rfl, rfl, hod⟩, fun f v e => ?_⟩
  obtain ⟨u, hu, ru⟩ := RelO.some_of (v := v) (o := mA f) (by rw [← e]; exact rel f)
  exact ⟨u, by rw [hl, hu], ru⟩
/-- isinstance of an error -/
def rIsX (K : PySem.W.Frag) : List V → Hp → VK → Prop := fun xs H Q => ∃ (a C dx : Addr) (fs : List (Str × V)) (c : V) (b : Bool), xs = [.ref a, c] ∧ Rd H a (exo a C (some dx)) ∧ Rd H dx (exd dx fs) ∧ ErC K C ∧
  ((∃ u, ClsV c u ∧ PySem.W.kitOne K (.ref C) u = some b) ∨ ∃ (tp : Addr) (cs : List V) (us : List Value), c = .ref tp ∧ SqT K H tp cs ∧ Paired ClsV cs us ∧ PySem.W.kitAny K (.ref C) us = some b) ∧ Q (.bl b) H
theorem x_isX (K : PySem.W.Frag) (hK : X.K = K := by rfl) : CallR X (.builtin "isinstance") (rIsX K) := by
  subst hK
  intro pins s σ H xs us Q I r h
  obtain ⟨a, C, dx, fs, c, b, rfl, h1, h2, T, hk, q⟩ := h
  obtain ⟨u1, u2, rfl, r1, r2⟩ := vals2 r
  cases (show u1 = Value.ref a from r1)
  obtain ⟨ox, od, J, _⟩ := er_at I h1 h2
  have Z := L3U.kitEr (x := a) (ox := ox) (od := od) T.ec T.self
  rcases hk with ⟨u, cu, e⟩ | ⟨tp, cs, ws, rfl, hT, k, e⟩
  · have e2 := cu.eq r2
    subst e2
    exact PySem.W.kia_one Z I.kIn J e (fun z => nomatch z) fun tk => ⟨.bl b, H, I.tok tk, rfl, q⟩
  · cases (show u2 = Value.ref tp from r2)
    rcases hT with hT | ⟨o, its, n, hk, hc, hd, _, rv⟩
    · obtain ⟨_, its, rv, o, g1, g2, n, g3⟩ := hT.ok I.hok
      have e3 := ClsV.all k rv
      subst e3
      obtain ⟨oc, od', dt, sl⟩ := o
      simp only at g2 g3
      subst g2 g3
      exact PySem.W.kia_tup Z I.kIn J g1 e (fun z => nomatch z) fun tk => ⟨.bl b, H, I.tok tk, rfl, q⟩
    · have e3 := ClsV.all k rv
      subst e3
      have g1 := I.kIn _ _ hk
      obtain ⟨oc, od', dt, sl⟩ := o
      obtain ⟨il⟩ := its
      simp only at hc hd
      subst hc hd
      exact PySem.W.kia_tup Z I.kIn J g1 e (fun z => nomatch z) fun tk => ⟨.bl b, H, I.tok tk, rfl, q⟩
/-- e.f of an error -/
def tXv (K : PySem.W.Frag) (te : TE) (f : Str) : TE := fun σ H Q => te σ H fun x H1 => ∃ (a C dx : Addr) (fs : List (Str × V)) (v : V), x = .ref a ∧ Rd H1 a (exo a C (some dx)) ∧ Rd H1 dx (exd dx fs) ∧ XfC K C ∧ PySem.W.findIn K (.ref C) f = some none ∧ fs.lookup f = some v ∧ Q v H1
theorem pe_xv {K : PySem.W.Frag} {e : Expr} {te : TE} {pos : Pos} {f : Str} (he : PE X e te) (hb : attributeBase e f X.env (eval e X.env) = eval e X.env := by rfl) (hK : X.K = K := by rfl) : PE X (.Attribute e f pos) (tXv K te f) := by
  subst hK
  refine ⟨fun pins s σ H Q I h => attr_of hb (thn (he.run pins s σ H _ I h) fun u s1 z => ?_)⟩
  obtain ⟨x, H1, I1, rx, a, C, dx, fs, v, rfl, h1, h2, T, no, l, q⟩ := z
  cases (show u = Value.ref a from rx)
  obtain ⟨ox, od, J, lk⟩ := er_at I1 h1 h2
  obtain ⟨u, hu, ru⟩ := lk f v l
  exact HandSPX.exc_get I1.kIn J T.ga T.gg T.exC (PySem.W.findObj_own T.hdC no rfl hu) (handed_of ru) ⟨v, H1, I1.tok _, ru, q⟩
/-- C(e, ..), an error made and held -/
def tMkE (C : Addr) (sp : Sp) (ta : TA) : TE := fun σ H Q => ta σ H fun vs H1 => vs.length ≤ 1000 ∧ ∀ a, H1 a = none → sp (.ref a :: vs) (upd H1 a (exo a C none)) (fun v H2 => v = .non ∧ Q (.ref a) H2) fun _ _ _ => False
theorem pe_mkE {CX : CXT} {x : Str} {C fI : Addr} {k : Nat} {fd : FuncData} {ps : List Str} {sp : Sp} {e : Expr} {es : List Expr} {ta : TA} {p pos : Pos} (T : OexC X.K C) (iC : PySem.W.findIn X.K (.ref C) "__init__" = some (some (.ref fI))) (tI : PySem.W.typeIn X.K (.ref fI) = some (.type "function"))
    (F1 : FnOk X.prog X.w X.K X.mg X.base CX k fI fd ps sp) (hr : Room (k + 1) X.A) (hb : Binds X.K fd ps []) (hx : Passes CX X fun _ _ _ => False) (hg : Gl X x) (hm : X.mg x = some (.ref C)) (ha : PA X (e :: es) ta)
    (hdb : (x == ("__debug__" : Str)) = false := by decide) (he : starEach (e :: es) X.env = (false, eval e X.env) :: starEach es X.env := by rfl) (hpl : (backTo pos (starEach es X.env)).any (·.1) = false := by rfl) :
    PE X (.Call (.Name x p) (e :: es) [] pos) (tMkE C sp ta) := by
  obtain ⟨_, _, _, _, bm, _, _, _, _, _, _, _, _, _, _, look, refs⟩ := T.cls
  refine ⟨fun pins s σ H Q I h => wpAny_Call_Name_kw (ld_glob I hg hm ?_ hdb)⟩
  refine PySem.W.callWith_K (h₀ := X.base) I.ok.mod.kin T.kC (thn (ha.run pos pins s σ H _ I h) fun us s1 z => ?_) he hpl
  obtain ⟨vs, H1, I1, rv, small, give⟩ := z
  refine ⟨I1.kIn, ?_⟩
  obtain ⟨hp, gg, dr, tk, os⟩ := s1
  have nx : H1 (hp.objs.size + 1) = none := I1.hok.fresh (Nat.le_succ _)
  have want := give _ nx
  have keep : ∀ b o, hp.get? b = some o → ((hp.push (PySem.W.kdv_tup us)).push (PySem.HandSPX.excO C hp.objs.size)).get? b = some o := fun b o y => Heap.get?_push_of_some _ (Heap.get?_push_of_some _ y)
  have here : ((hp.push (PySem.W.kdv_tup us)).push (PySem.HandSPX.excO C hp.objs.size)).get? (hp.objs.size + 1) = some (PySem.HandSPX.excO C hp.objs.size) := by heap_get
  have I2 := I1.laid (t' := tk) (o := exo (hp.objs.size + 1) C none) keep (Nat.le_succ _) (exo_ok here)
  have rs : Vals (V.ref (hp.objs.size + 1) :: vs) (Value.ref (hp.objs.size + 1) :: us) := .cons rfl rv
  have many : (Value.ref (hp.objs.size + 1) :: us).length = ps.length := rs.length.symm.trans (F1.len _ _ _ _ want)
  have room : us.length ≤ sizeLine := by rw [← rv.length, sizeLine_eq]; omega
  refine wpAny_call (PySem.HandSPX.call_own F.excBase_ValueError (fun Y => PySem.HandSPX.refsVE_contains Y bm refs) (I1.kIn _ _ look) (PySem.W.looks_findIn I1.kIn iC) (fun self => PySem.W.bind_fn I1.kIn self tI) room ?_)
  have bd := hb _ (Value.ref (hp.objs.size + 1) :: us) I2.kIn (by rw [List.append_nil]; exact many)
  rw [List.append_nil] at bd
  refine codeAny_mono (F1.run _ X.stack _ _ ⟨Value.ref (hp.objs.size + 1) :: us, []⟩ (Value.ref (hp.objs.size + 1) :: us) _ _ (fun _ _ _ => False) (hr.make C us []) (I2.env0.make C us []) bd rs want) fun r s' back => ?_
  match r, back with
  | .error er, back => exact hx pins σ _ _ er s' I2 back
  | .ok (.ret u), back =>
    obtain ⟨v, H2, eo, bare, un, hok, ru, rfl, q⟩ := back
    exact ⟨ru, V.ref (hp.objs.size + 1), H2, I2.call' (ch := []) eo un hok bare (fun b z => nomatch z), rfl, q⟩
  | .ok .next, back => exact back.elim
  | .ok .brk, back => exact back.elim
  | .ok .cont, back => exact back.elim
end
section
variable {c : Ctx} {ρ : List SD} {n : Nat} {te : TE} {as : TA} {Φ : Nat → D → Prop}
theorem we_xv {f : Str} (h : WE c te ρ n fun n1 x => ∃ C ks, x = .er C ks ∧ XfC c.K C ∧ PySem.W.findIn c.K (.ref C) f = some none ∧ ∃ d, ks.lookup f = some d ∧ Φ n1 d) : WE c (tXv c.K te f) ρ n Φ := fun P L σ H Q E q => by
  refine h P L σ H _ E fun v x n1 H1 s1 j1 r1 ⟨C, ks, e, T, no, d, l, k⟩ => ?_
  subst e
  cases r1 with
  | er h1 h2 hf =>
    obtain ⟨w, lw, rw'⟩ := hf.look l
    exact ⟨_, _, _, _, w, rfl, same_rd same_hid h1, same_rd same_hid h2, T, no, lw, q w d n1 H1 s1 j1 rw' k⟩
theorem we_mkE {C : Addr} {fs : List Str} (h : WA c as ρ n fun n1 ds => ds.length = fs.length ∧ fs.length ≤ 1000 ∧ Φ n1 (.er C (fs.zip ds).reverse)) : WE c (tMkE C (spXI C fs) as) ρ n Φ := fun P L σ H Q E q => by
  refine h P L σ H _ E fun vs ds n1 H1 s1 j1 r1 ⟨hl, hz, k⟩ => ?_
  have E1 := E.step s1 j1
  have hvl : vs.length = fs.length := r1.length.trans hl
  refine ⟨by omega, fun a ha => ⟨a, vs, rfl, hvl, upd_same, fun d H' hd e1 e2 e3 => ⟨rfl, ?_⟩⟩⟩
  have hda : d ≠ a := fun z => by rw [z, upd_same] at hd; cases hd
  have hd1 : H1 d = none := by rw [upd_ne hda] at hd; exact hd
  have sm : Same H1 H' := fun b o z => by
    have b1 : b ≠ a := fun y => by rw [y, ha] at z; cases z
    have b2 : b ≠ d := fun y => by rw [y, hd1] at z; cases z
    rw [e3 b b1 b2, upd_ne b1]; exact z
  obtain ⟨s2, j2⟩ := E1.same sm
  refine q (.ref a) _ n1 H' (s1.trans s2) j2 (.er (dx := d) (.inl ?_) (.inl ?_) ((rpfs_zip r1).rev.mono (same_hid_of sm))) k
  · rw [hid_out (E1.noO a ha)]; exact e1
  · rw [hid_out (E1.noO d hd1)]; exact e2
end
section
variable {K : PySem.W.Frag} {Φ : D → Prop} {C : Addr} {ks : List (Str × D)} {b : Bool}
theorem rc_isXT {U : String} (T : ErC K C) (hk : PySem.W.kitOne K (.ref C) (.type U) = some b) (k : Φ (.bl b)) : RCD K (rIsX K) [.er C ks, .ty U] Φ := fun O H xs Q rs no q => by
  obtain ⟨v, u, rfl, r1, r2⟩ := rs.two
  cases r2
  cases r1 with
  | er h1 h2 hf => exact ⟨_, _, _, _, _, b, rfl, same_rd same_hid h1, same_rd same_hid h2, T, .inl ⟨_, .ty U, hk⟩, q _ _ H (Same.refl _) (.bl _) k⟩
theorem rc_isXC {C' : Addr} (T : ErC K C) (hk : PySem.W.kitOne K (.ref C) (.ref C') = some b) (k : Φ (.bl b)) : RCD K (rIsX K) [.er C ks, .adr C'] Φ := fun O H xs Q rs no q => by
  obtain ⟨v, u, rfl, r1, r2⟩ := rs.two
  cases r2
  cases r1 with
  | er h1 h2 hf => exact ⟨_, _, _, _, _, b, rfl, same_rd same_hid h1, same_rd same_hid h2, T, .inl ⟨_, .own C', hk⟩, q _ _ H (Same.refl _) (.bl _) k⟩
theorem rp_adrs {H : Hp} : ∀ {vs : List V} {Cs : List Addr}, RpAll K H vs (Cs.map .adr) → Paired ClsV vs (Cs.map Value.ref)
  | _, [], h => by cases h; exact .nil
  | _, C :: Cs, h => by
    cases h with
    | cons h r => cases h; exact .cons (.own C) (rp_adrs r)
theorem rc_isXN {Cs : List Addr} (T : ErC K C) (hk : PySem.W.kitAny K (.ref C) (Cs.map Value.ref) = some b) (k : Φ (.bl b)) : RCD K (rIsX K) [.er C ks, .tup (Cs.map .adr)] Φ := fun O H xs Q rs no q => by
  obtain ⟨v, u, rfl, r1, r2⟩ := rs.two
  cases r1 with
  | er h1 h2 hf =>
    cases r2 with
    | tup hs hc => exact ⟨_, _, _, _, _, b, rfl, same_rd same_hid h1, same_rd same_hid h2, T, .inr ⟨_, _, _, rfl, same_t same_hid hs, rp_adrs hc, hk⟩, q _ _ H (Same.refl _) (.bl _) k⟩
end
end L3
/-! L6f: own __len__. -/
namespace L3
open PySem L2
section
variable {X : Cx} {CX : CXT} {n : Nat} {C f : Addr} {fd : FuncData} {ps : List Str} {sp : Sp} {E : XK}
theorem own_run1 {A : Around} {pins : List (Addr × Obj)} {σ : L2.St} {H : Hp} {s : Shared} {a : Addr} {Q : VK} (F : FnOk X.prog X.w X.K X.mg X.base CX n f fd ps sp) (hr : Room n A) (hfr : A.frames = X.A.frames) (hb : Binds X.K fd ps []) (hx : Passes CX X E) (I : Inv X pins σ H s) (h : sp [.ref a] H Q E) :
    wpAny (model X.prog X.w) A (call (.ref f) [.ref a]) (EP X pins σ Q) X.xe s := by
  have e0 : Env0 X.prog X.w X.K X.mg X.base A X.stack s H := by
    have e := I.env0
    exact ⟨by rw [hfr]; exact e.frames, e.mod, e.bs, e.bsz, e.funs, e.frf, e.hok, e.bare⟩
  have hl := F.len _ _ _ _ h
  have r2 : Vals [V.ref a] [Value.ref a] := .cons rfl .nil
  refine wpAny_call (codeAny_mono (F.run A X.stack s H ⟨[.ref a], []⟩ [.ref a] [.ref a] _ E hr e0 (by
    have := hb s [.ref a] I.kIn (by simpa using hl)
    simpa using this) r2 h) fun r s' hq => ?_)
  match r, hq with
  | .error e, hq => exact hx pins σ H s e s' I hq
  | .ok (.ret w), hq => exact I.after hq
  | .ok .next, hq => exact hq.elim
  | .ok .brk, hq => exact hq.elim
  | .ok .cont, hq => exact hq.elim
/-- len(x) of an instance with its own __len__ -/
def rLenO (C : Addr) (sp : Sp) (E : XK) : List V → Hp → VK → Prop := fun xs H Q => ∃ a dx fs, xs = [.ref a] ∧ H a = some (.ins C dx fs) ∧ sp [.ref a] H (fun v H' => ∃ k : Nat, v = .int k ∧ k < 2 ^ 63 ∧ Q (.int k) H') E
theorem call_lenO (F : FnOk X.prog X.w X.K X.mg X.base CX n f fd ps sp) (hs : PySem.W.findIn X.K (.ref C) "__len__" = some (some (.ref f))) (hf : PySem.W.isFn X.K (.ref f) = true) (hr : Room (n + 1) X.A) (hb : Binds X.K fd ps []) (hx : Passes CX X E) : CallR X (.builtin "len") (rLenO C sp E) := by
  intro pins s σ H xs us Q I r h
  obtain ⟨a, dx, fs, rfl, ha, h⟩ := h
  cases r with
  | cons rx rr =>
    cases rr
    cases rx
    obtain ⟨mA, J, _⟩ := ins_get I.hok ha
    obtain ⟨od, J, _⟩ := J.look
    obtain ⟨m, hF⟩ := I.fr
    refine PySem.W.len_K hF I.ok.mod.kin J hs hf (wpAny_mono (own_run1 F hr.in1 rfl hb hx I h) (fun r s' z => ?_) fun _ _ e => e)
    obtain ⟨v, H', I', rv, k, ek, hk, q⟩ := z
    subst ek
    obtain ⟨t, e⟩ := (show ∃ t, r = Value.int k t from rv)
    subst e
    exact ⟨⟨by omega, by omega⟩, .int k, H', I'.tok _, ⟨_, rfl⟩, q⟩
end
/-- a class with its own __len__, as callers see it -/
structure Ln (P : Program) (w : World) (K : PySem.W.Frag) (mg : Str → Option Value) (base : Heap) (C : Addr) (k : Nat) (ps : List Str) (S : L3.Spec) where
  f : Addr
  fd : FuncData
  hs : PySem.W.findIn K (.ref C) "__len__" = some (some (.ref f))
  hf : PySem.W.isFn K (.ref f) = true
  G : FnOk P w K mg base CX0 k f fd ps (spD K S)
  b : Binds K fd ps []
theorem rc_lenO {K : PySem.W.Frag} {C : Addr} {S : L3.Spec} {E : XK} {Φ : D → Prop} {ks : List (Str × D)} (h : S none 0 [.obj C ks] fun _ r => ∃ k : Nat, r = .int k ∧ k < 2 ^ 63 ∧ Φ (.int k)) : RCD K (rLenO C (spD K S) E) [.obj C ks] Φ := fun O H xs Q rs no q => by
  cases rs with
  | cons r1 rr =>
    cases rr
    cases r1 with
    | obj h1 f1 =>
      refine ⟨_, _, _, rfl, (hid_some.mp h1).2, O, none, 0, _, _, (fun b q e => nomatch e), (fun o ho e => no o e ho), .cons (.obj h1 f1) .nil, h, fun v d n' H' s j r ⟨k, e, hk, kk⟩ => ?_⟩
      subst e
      cases r
      have s' : Same H H' := by
        have z : Same (hid [] H) (hid [] H') := s
        rw [hid_nil, hid_nil] at z
        exact z
      exact ⟨k, rfl, hk, q _ _ H' s' (.int _) kk⟩
/-! ### readings that tell K (for suites of try) -/
section
variable {X : Cx} {C : Addr} {good : List (Str × D) → Prop} {n f : Nat} {fd : FuncData} {ps : List Str} {S : L3.Spec} {E : XK}
theorem x_ownTE (K : PySem.W.Frag) (F : FnOk X.prog X.w X.K X.mg X.base CX0 n f fd ps (spD X.K S)) (hS : ∀ ks, good ks → S none 0 [.obj C ks, .obj C ks] fun _ r => r = .bl true) (T : OwnEqT X.K C f) (hr : Room (n + 1) X.A) (hb : Binds X.K fd ps []) (hx : Passes CX0 X E) (hK : X.K = K := by rfl) : OpR X (compareOp .Eq) (rOwnTU K false C good) := by
  subst hK; exact op_ownTE F hS T hr hb hx
theorem x_ownTNe (K : PySem.W.Frag) (F : FnOk X.prog X.w X.K X.mg X.base CX0 n f fd ps (spD X.K S)) (hS : ∀ ks, good ks → S none 0 [.obj C ks, .obj C ks] fun _ r => r = .bl true) (T : OwnEqT X.K C f) (hr : Room (n + 1) X.A) (hb : Binds X.K fd ps []) (hx : Passes CX0 X E) (hK : X.K = K := by rfl) : OpR X (compareOp .NotEq) (rOwnTU K true C good) := by
  subst hK; exact op_ownTNe F hS T hr hb hx
theorem x_ownLNe (K : PySem.W.Frag) (F : FnOk X.prog X.w X.K X.mg X.base CX0 n f fd ps (spD X.K S)) (hS : ∀ ks, good ks → S none 0 [.obj C ks, .obj C ks] fun _ r => r = .bl true) (T : OwnEqT X.K C f) (hr : Room (n + 1) X.A) (hb : Binds X.K fd ps []) (hx : Passes CX0 X E) (hK : X.K = K := by rfl) : OpR X (compareOp .NotEq) (rOwnLN K C good) := by
  subst hK; exact op_ownLNe F hS T hr hb hx
theorem x_own {x : Str} {k fi : Nat} {tg l : Expr} {tl : TE} (K : PySem.W.Frag) (hl : PE X l tl) (F : ItRun X.prog X.w X.K X.mg X.base C x k fi) (hi : PySem.W.findIn X.K (.ref C) "__iter__" = some (some (.ref fi))) (hf : PySem.W.isFn X.K (.ref fi) = true) (hr : Room k X.A) (hx : Passes CX0 X E) (hK : X.K = K := by rfl) : PI X tg l (iOwn K C x tl) := by
  subst hK; exact pi_own hl F hi hf hr hx
/-! ### a if t else b as a test -/
def tIfT (t a b : TT) : TT := fun σ H Q => t σ H fun c H1 => if c = true then a σ H1 Q else b σ H1 Q
theorem pt_ifT {c a b : Expr} {t u v : TT} {pos : Pos} (hc : PT X c t) (ha : PT X a u) (hb : PT X b v) : PT X (.IfExp c a b pos) (tIfT t u v) := by
  refine ⟨fun pins s σ H Q I h => ?_⟩
  have e : isTrue (.IfExp c a b pos) X.env (eval (.IfExp c a b pos) X.env) = (isTrue c X.env (eval c X.env) >>= fun d => if d then isTrue a X.env (eval a X.env) else isTrue b X.env (eval b X.env)) := rfl
  rw [e]
  refine wpAny_bind (thn (hc.run pins s σ H _ I h) fun d s1 z => ?_)
  obtain ⟨H1, I1, q⟩ := z
  cases d with
  | true => exact ha.run pins s1 σ H1 Q I1 q
  | false => exact hb.run pins s1 σ H1 Q I1 q
end
theorem wt_ifT {c : Ctx} {ρ : List SD} {n : Nat} {t u v : TT} {Φ : Nat → Bool → Prop} (h : WT c t ρ n fun n1 b => if b = true then WT c u ρ n1 Φ else WT c v ρ n1 Φ) : WT c (tIfT t u v) ρ n Φ := fun P L σ H Q E q => by
  refine h P L σ H _ E fun b n1 H1 s1 j1 k => ?_
  have E1 := E.step s1 j1
  cases b with
  | true => exact k P L σ H1 Q E1 fun b n2 H2 s2 j2 k2 => q b n2 H2 (s1.trans s2) j2 k2
  | false => exact k P L σ H1 Q E1 fun b n2 H2 s2 j2 k2 => q b n2 H2 (s1.trans s2) j2 k2
/-! ### isinstance's answers of own classes, from what k_is tells -/
section
variable {K : PySem.W.Frag} {S T : Addr} {b : Bool}
theorem kitCls_own (h1 : PySem.W.isClsIn K T = true) (h2 : PySem.W.typeIn K (.ref T) = some (.type "type")) (h3 : PySem.W.subIn K (.ref S) (.ref T) = some b) : PySem.W.kitCls K (.ref S) (.ref T) = some b := by
  have h1' : (PySem.W.clsIn K T).isSome = true := h1
  show (if ((PySem.W.clsIn K T).isSome && PySem.W.typeIn K (.ref T) == some (.type "type")) = true then PySem.W.subIn K (.ref S) (.ref T) else none) = some b
  rw [if_pos (by rw [h1', h2] <;> rfl)]
  exact h3
theorem kitOne_yes (h1 : PySem.W.isClsIn K T = true) (h2 : PySem.W.typeIn K (.ref T) = some (.type "type")) (h3 : PySem.W.subIn K (.ref S) (.ref T) = some true) : PySem.W.kitOne K (.ref S) (.ref T) = some true := by
  unfold PySem.W.kitOne
  split
  · rfl
  · exact kitCls_own h1 h2 h3
theorem kitOne_no (h0 : PySem.W.subIn K (.ref S) (.ref S) = some true) (h1 : PySem.W.isClsIn K T = true) (h2 : PySem.W.typeIn K (.ref T) = some (.type "type")) (h3 : PySem.W.subIn K (.ref S) (.ref T) = some false) : PySem.W.kitOne K (.ref S) (.ref T) = some false := by
  unfold PySem.W.kitOne
  split
  · rename_i q
    have e : S = T := by simpa using q
    subst e
    rw [h0] at h3; cases h3
  · exact kitCls_own h1 h2 h3
theorem kitOne_ty {U : String} (hm : PySem.W.kitMeta U = true) (h3 : PySem.W.subIn K (.ref S) (.type U) = some b) : PySem.W.kitOne K (.ref S) (.type U) = some b := by
  unfold PySem.W.kitOne
  rw [if_neg (by intro q; exact nomatch (eq_of_beq q))]
  show (if PySem.W.kitMeta U = true then _ else none) = some b
  rw [if_pos hm]
  exact h3
theorem kitAny_no2 {A B : Value} (h1 : PySem.W.kitOne K (.ref S) A = some false) (h2 : PySem.W.kitOne K (.ref S) B = some false) : PySem.W.kitAny K (.ref S) [A, B] = some false := by
  unfold PySem.W.kitAny
  rw [h1]
  show PySem.W.kitAny K (.ref S) [B] = some false
  unfold PySem.W.kitAny
  rw [h2]; rfl
end
end L3
/-! L7a: [.. for .. for ..]; {k: v} with one entry; sorted(d); x = y.pop(i). -/
namespace L3
open PySem L2
section
variable {c : Ctx} {ρ : List SD} {n : Nat} {P : Hp} {L : List Addr} {H : Hp} {σ : List (Option V)}
theorem mem_swap {D a : Addr} {L O : List Addr} : a ∈ (D :: L) ++ O ↔ a ∈ L ++ D :: O := by
  simp only [List.cons_append, List.mem_cons, List.mem_append]
  constructor
  · rintro (h | h | h)
    · exact .inr (.inl h)
    · exact .inl h
    · exact .inr (.inr h)
  · rintro (h | h | h)
    · exact .inr (.inl h)
    · exact .inl h
    · exact .inr (.inr h)
theorem same_swap {D : Addr} {L O : List Addr} {H : Hp} : Same (hid ((D :: L) ++ O) H) (hid (L ++ D :: O) H) := same_hid_sub fun _ h => mem_swap.mpr h
theorem same_swap' {D : Addr} {L O : List Addr} {H : Hp} : Same (hid (L ++ D :: O) H) (hid ((D :: L) ++ O) H) := same_hid_sub fun _ h => mem_swap.mp h
/-- one of one's own, not in a slot, put to what callers own -/
theorem Env.push {D : Addr} {Ls : List Addr} (E : Env c P (D :: L) n H σ ρ) (sl : Slots c.pr c.wd c.K ((D :: L) ++ c.O) H σ ρ Ls) (sb : Ls.Sublist L) : Env { c with O := D :: c.O } P L n H σ ρ where
  nd := (List.nodup_cons.mp E.nd).2
  fresh := fun l hl => ⟨(E.fresh l (List.mem_cons_of_mem _ hl)).1, fun q => by
    rcases List.mem_cons.mp q with z | z
    · exact (List.nodup_cons.mp E.nd).1 (z ▸ hl)
    · exact (E.fresh l (List.mem_cons_of_mem _ hl)).2 z⟩
  slots := ⟨Ls, sl.move (fun _ _ => rfl) same_swap, sb⟩
  lst := fun l hl => E.lst l (List.mem_cons_of_mem _ hl)
  bag := E.bag
  base := E.base
  pers := E.pers.trans same_swap
  bO := fun b q hb => ⟨List.mem_cons_of_mem _ (E.bO b q hb).1, List.mem_cons_of_mem _ (E.bO b q hb).2.1, (E.bO b q hb).2.2⟩
  al := fun o ho => by
    rcases List.mem_cons.mp ho with z | z
    · subst z
      obtain ⟨u, hu⟩ := E.lst _ List.mem_cons_self
      rw [hu]; exact fun q => nomatch q
    · exact E.al o z
/-- and back -/
theorem Env.pull {D : Addr} (E : Env { c with O := D :: c.O } P L n H σ ρ) (h0 : c.H0 D = none) (hO : D ∉ c.O) (hL : D ∉ L) (hb : ∀ b q, c.bag = some (b, q) → b ∈ c.O ∧ q ∈ c.O) : Env c P (D :: L) n H σ ρ where
  nd := List.nodup_cons.mpr ⟨hL, E.nd⟩
  fresh := fun l hl => by
    rcases List.mem_cons.mp hl with z | z
    · subst z; exact ⟨h0, hO⟩
    · exact ⟨(E.fresh l z).1, fun q => (E.fresh l z).2 (List.mem_cons_of_mem _ q)⟩
  slots := by
    obtain ⟨Ls, sl, sb⟩ := E.slots
    exact ⟨Ls, sl.move (fun _ _ => rfl) same_swap', sb.cons _⟩
  lst := fun l hl => by
    rcases List.mem_cons.mp hl with z | z
    · subst z
      have := E.al l List.mem_cons_self
      cases q : H l with
      | none => exact absurd q this
      | some o => exact ⟨o, rfl⟩
    · exact E.lst l z
  bag := E.bag
  base := E.base
  pers := E.pers.trans same_swap'
  bO := fun b q e => ⟨(hb b q e).1, (hb b q e).2, (E.bO b q e).2.2⟩
  al := fun o ho => E.al o (List.mem_cons_of_mem _ ho)
/-- what callers own, all but the bag, may change -/
theorem Env.growO {D : Addr} {u : HO} (E : Env c P L n H σ ρ) (hD : D ∈ c.O) (h0 : c.H0 D = none) (hb : ∀ b q, c.bag = some (b, q) → D ≠ b ∧ D ≠ q) : Env c P L n (upd H D u) σ ρ := by
  have hm : D ∈ L ++ c.O := List.mem_append_right _ hD
  have nL : ∀ l ∈ L, l ≠ D := fun l hl q => (E.fresh l hl).2 (q ▸ hD)
  obtain ⟨Ls, sl, sb⟩ := E.slots
  exact { nd := E.nd, fresh := E.fresh, slots := ⟨Ls, sl.move (fun l hl => upd_ne (nL l (sb.subset hl))) (by rw [hid_upd_in hm]; exact Same.refl _), sb⟩,
          lst := fun l hl => by rw [upd_ne (nL l hl)]; exact E.lst l hl,
          bag := fun b q e => (E.bag b q e).move (fun o h => by rw [upd_ne fun z => (hb b q e).1 z.symm]; exact h) fun o h => by rw [upd_ne fun z => (hb b q e).2 z.symm]; exact h,
          base := fun a o h => by
            have ne : a ≠ D := fun z => by
              have := (hid_some.mp h).2
              rw [z, h0] at this; cases this
            obtain ⟨h1, h2⟩ := hid_some.mp (E.base a o h)
            exact hid_some.mpr ⟨h1, by rw [upd_ne ne]; exact h2⟩,
          pers := by rw [hid_upd_in hm]; exact E.pers,
          bO := E.bO,
          al := fun o ho => by
            by_cases z : o = D
            · rw [z, upd_same]; exact fun q => nomatch q
            · rw [upd_ne z]; exact E.al o ho }
end
section
variable {c : Ctx} {ρ : List SD} {n : Nat} {ta tb te tk tv : TE} {t t1 : TT} {g g1 : TG} {Φ : Nat → D → Prop} {Ψ : Out} {ts us : TS}
def Lc2N (c : Ctx) (g : TG) (t : TT) (wi1 : TI) (g1 : TG) (t1 : TT) (te : TE) (vs vs1 : List Nat) (ρ : List SD) (n1 : Nat) (ds : List D) (Φ : Nat → List D → Prop) : Prop := ∃ I : Nat → Nat → List D → Prop, I 0 n1 [] ∧
    (∀ k m acc d, ds[k]? = some d → I k m acc → ∀ O', WG { c with O := O' } (RW vs) g d (wipeR ρ vs) m fun ρ2 => WT { c with O := O' } t ρ2 m fun m2 b => if b = true then
      WI { c with O := O' } wi1 ρ2 m2 fun m3 es => ∃ J : Nat → Nat → List D → Prop, J 0 m3 acc ∧
        (∀ k1 m4 acc1 e, es[k1]? = some e → J k1 m4 acc1 → WG { c with O := O' } (RW vs1) g1 e (wipeR ρ2 vs1) m4 fun ρ3 => WT { c with O := O' } t1 ρ3 m4 fun m5 b1 => if b1 = true then WE { c with O := O' } te ρ3 m5 fun m6 y => acc1.length < sizeLine ∧ J (k1 + 1) m6 (acc1 ++ [y]) else J (k1 + 1) m5 acc1) ∧
        (∀ m4 acc1, J es.length m4 acc1 → I (k + 1) m4 acc1)
      else I (k + 1) m2 acc) ∧
    (∀ m acc, I ds.length m acc → Φ m acc)
theorem lc2_go {wi1 : TI} {vs vs1 : List Nat} {Φ : Nat → List D → Prop} {P : Hp} {L : List Addr} {σ : List (Option V)} {H1 : Hp} {Q : VK} {n1 : Nat} {J : It} {ds : List D} (E : Env c P L n1 H1 σ ρ) (it : ItOk c J ds (hid (L ++ c.O) H1)) (h : Lc2N c g t wi1 g1 t1 te vs vs1 ρ n1 ds Φ)
    (q : ∀ (p : Addr) (xs : List V) (es : List D) (n' : Nat) (H' : Hp), Same (hid c.B H1) (hid c.B H') → H1 p = none → H' p = some (.lst xs) → RpAll c.K (hid (p :: (L ++ c.O)) H') xs es → c.J n' H' → Φ n' es → Q (.ref p) H') : tLc2 (fun _ H R => R J H) g t wi1 g1 t1 te vs vs1 σ H1 Q := by
  obtain ⟨I, h0, hs, hd⟩ := h
  intro D hD
  have E1 := E.pers'
  obtain ⟨Ls, sl, sb⟩ := E1.slots
  obtain ⟨Lw, slw, sbw⟩ := sl.wipe vs
  have Ew : Env c (hid (L ++ c.O) H1) L n1 H1 (wipe σ vs) (wipeR ρ vs) := E1.reslot slw (sbw.trans sb)
  have E2 := Ew.newOwn (xs := []) hD
  have DnL : D ∉ L := (E1.new hD).2.2
  have DnO : D ∉ c.O := (E1.new hD).2.1
  have D0 : c.H0 D = none := (E1.new hD).1
  have slp : Slots c.pr c.wd c.K ((D :: L) ++ c.O) (upd H1 D (.lst [])) (wipe σ vs) (wipeR ρ vs) Lw := slw.move (fun l hl => upd_ne fun e => DnL (e ▸ sb.subset (sbw.subset hl))) (by rw [show (D :: L) ++ c.O = D :: (L ++ c.O) from rfl, hid_new_in hD]; exact Same.refl _)
  have E3 := E2.push slp (sbw.trans sb)
  have bagD : ∀ b q, c.bag = some (b, q) → D ≠ b ∧ D ≠ q := fun b q hb => ⟨fun z => DnO (z ▸ (E.bO b q hb).1), fun z => DnO (z ▸ (E.bO b q hb).2.1)⟩
  have bagO : ∀ b q, c.bag = some (b, q) → b ∈ c.O ∧ q ∈ c.O := fun b q hb => ⟨(E.bO b q hb).1, (E.bO b q hb).2.1⟩
  have DB : D ∉ c.B := fun z => DnO (E.inO z)
  refine ⟨fun i m H' => m + i = ds.length ∧ ∃ n' xs acc, Env { c with O := D :: c.O } (hid (L ++ c.O) H1) L n' H' (wipe σ vs) (wipeR ρ vs) ∧ H' D = some (.lst xs) ∧ RpAll c.K (hid (L ++ D :: c.O) H') xs acc ∧ Same (hid c.B H1) (hid c.B H') ∧ I i n' acc, ⟨ds.length, rfl, n1, [], [], E3, upd_same, .nil, (E1.newT hD).1, h0⟩, ?_⟩
  rintro i m H' ⟨hm, n', xs, acc, E', hDx, hacc, sB, hI⟩
  have Ep := E'.pull D0 DnO DnL bagO
  by_cases hi : i < ds.length
  · right
    have hg : ds[i]? = some ds[i] := List.getElem?_eq_getElem hi
    obtain ⟨go, yl⟩ := it.go (D :: L) n' H' _ _ Ep i _ hg
    refine ⟨go, fun H2 => ∃ n' xs acc, Env { c with O := D :: c.O } (hid (L ++ c.O) H1) L n' H2 (wipe σ vs) (wipeR ρ vs) ∧ H2 D = some (.lst xs) ∧ RpAll c.K (hid (L ++ D :: c.O) H2) xs acc ∧ Same (hid c.B H1) (hid c.B H2) ∧ I (i + 1) n' acc, ?_, ?_⟩
    · rintro H2 ⟨n2, xs2, acc2, a1, a2, a3, a4, a5⟩
      exact ⟨m - 1, by omega, by omega, n2, xs2, acc2, a1, a2, a3, a4, a5⟩
    · intro x H2 hy
      obtain ⟨sm, rx⟩ := yl x H2 hy
      have z := E'.same sm
      have E2' := E'.step z.1 z.2
      refine hs i n' acc _ hg hI (D :: c.O) _ L _ H2 x _ E2' (rx.mono same_swap) fun σ3 ρ3 E3 hw k3 => ?_
      refine ⟨hw.trans (wipe_idem σ vs), ?_⟩
      refine k3 _ L σ3 H2 _ E3 fun b n4 H4 s4 j4 k4 => ?_
      have back : ∀ {H5 : Hp} {n5 : Nat}, Same (hid c.B H2) (hid c.B H5) → c.J n5 H5 → Env { c with O := D :: c.O } (hid (L ++ c.O) H1) L n5 H5 (wipe σ vs) (wipeR ρ vs) := fun s5 j5 => E2'.step s5 j5
      have own : ∀ {H5 H6 : Hp} {ys : List V}, H5 D = some (.lst ys) → Same (hid c.B H5) (hid c.B H6) → H6 D = some (.lst ys) := fun h5 s5 => (hid_some.mp (s5 D _ (hid_some.mpr ⟨DB, h5⟩))).2
      have h2D : H2 D = some (.lst xs) := sm D _ hDx
      have a2 : RpAll c.K (hid (L ++ D :: c.O) H2) xs acc := hacc.mono (same_hid_of sm)
      cases b with
      | false =>
        rw [if_neg Bool.false_ne_true] at k4 ⊢
        exact ⟨n4, xs, acc, back s4 j4, own h2D s4, a2.mono (E2'.sameLO s4), (sB.trans z.1).trans s4, k4⟩
      | true =>
        rw [if_pos rfl] at k4 ⊢
        refine k4 _ L σ3 H4 _ (E3.step s4 j4) fun J1 es n5 H5 s5 j5 it1 ⟨Ji, hJ0, hJs, hJd⟩ => ?_
        have E5 := (E3.step s4 j4).step s5 j5
        have E5p := E5.pers'
        obtain ⟨L3, sl3, sb3⟩ := E5p.slots
        obtain ⟨L4, sl4, sb4⟩ := sl3.wipe vs1
        have E6 : Env { c with O := D :: c.O } (hid (L ++ D :: c.O) H5) L n5 H5 (wipe σ3 vs1) (wipeR ρ3 vs1) := E5p.reslot sl4 (sb4.trans sb3)
        have s25 := s4.trans s5
        refine ⟨fun j k H' => k + j = es.length ∧ ∃ n' xs1 acc1, Env { c with O := D :: c.O } (hid (L ++ D :: c.O) H5) L n' H' (wipe σ3 vs1) (wipeR ρ3 vs1) ∧ Env { c with O := D :: c.O } (hid (L ++ c.O) H1) L n' H' (wipe σ vs) (wipeR ρ vs) ∧ H' D = some (.lst xs1) ∧ RpAll c.K (hid (L ++ D :: c.O) H') xs1 acc1 ∧ Same (hid c.B H1) (hid c.B H') ∧ Ji j n' acc1,
          ⟨es.length, rfl, n5, xs, acc, E6, back s25 j5, own h2D s25, a2.mono (E2'.sameLO s25), (sB.trans z.1).trans s25, hJ0⟩, ?_⟩
        rintro j k H' ⟨hk, n', xs1, acc1, F1, F2, F3, F4, F5, F6⟩
        by_cases hj : j < es.length
        · right
          have hg1 : es[j]? = some es[j] := List.getElem?_eq_getElem hj
          obtain ⟨go1, yl1⟩ := it1.go L n' H' _ _ F1 j _ hg1
          refine ⟨go1, fun H2 => ∃ n' xs1 acc1, Env { c with O := D :: c.O } (hid (L ++ D :: c.O) H5) L n' H2 (wipe σ3 vs1) (wipeR ρ3 vs1) ∧ Env { c with O := D :: c.O } (hid (L ++ c.O) H1) L n' H2 (wipe σ vs) (wipeR ρ vs) ∧ H2 D = some (.lst xs1) ∧ RpAll c.K (hid (L ++ D :: c.O) H2) xs1 acc1 ∧ Same (hid c.B H1) (hid c.B H2) ∧ Ji (j + 1) n' acc1, ?_, ?_⟩
          · rintro H2 ⟨n2, xs2, acc2, b1, b2, b3, b4, b5, b6⟩
            exact ⟨k - 1, by omega, by omega, n2, xs2, acc2, b1, b2, b3, b4, b5, b6⟩
          · intro x1 H7 hy1
            obtain ⟨sm1, rx1⟩ := yl1 x1 H7 hy1
            have z1 := F1.same sm1
            have G1 := F1.step z1.1 z1.2
            have G2 := F2.step z1.1 z1.2
            have h7D : H7 D = some (.lst xs1) := sm1 D _ F3
            have a7 : RpAll c.K (hid (L ++ D :: c.O) H7) xs1 acc1 := F4.mono (same_hid_of sm1)
            refine hJs j n' acc1 _ hg1 F6 _ L _ H7 x1 _ G1 rx1 fun σ4 ρ4 E7 hw1 k7 => ?_
            refine ⟨hw1.trans (wipe_idem σ3 vs1), ?_⟩
            refine k7 _ L σ4 H7 _ E7 fun b1 n8 H8 s8 j8 k8 => ?_
            cases b1 with
            | false =>
              rw [if_neg Bool.false_ne_true] at k8 ⊢
              exact ⟨n8, xs1, acc1, G1.step s8 j8, G2.step s8 j8, own h7D s8, a7.mono (G1.sameLO s8), (F5.trans z1.1).trans s8, k8⟩
            | true =>
              rw [if_pos rfl] at k8 ⊢
              refine k8 _ L σ4 H8 _ (E7.step s8 j8) fun y d n9 H9 s9 j9 r9 ⟨hz, k9⟩ => ?_
              have s89 := s8.trans s9
              have a9 := a7.mono (G1.sameLO s89)
              have hm : D ∈ L ++ D :: c.O := List.mem_append_right _ List.mem_cons_self
              refine ⟨xs1, own h7D s89, by rw [a7.length]; exact hz, n9, xs1 ++ [y], acc1 ++ [d], ?_, ?_, upd_same, ?_, ?_, k9⟩
              · exact (G1.step s89 j9).growO (c := { c with O := D :: c.O }) List.mem_cons_self D0 bagD
              · exact (G2.step s89 j9).growO (c := { c with O := D :: c.O }) List.mem_cons_self D0 bagD
              · rw [hid_upd_in hm]
                exact a9.append (.cons r9 .nil)
              · exact same_upd_old hD ((F5.trans z1.1).trans s89)
        · left
          have e : j = es.length := by omega
          subst e
          exact ⟨it1.stop L n' H' _ _ F1 _ (Nat.le_refl _), n', xs1, acc1, F2, F3, F4, F5, hJd n' acc1 F6⟩
  · left
    have e : i = ds.length := by omega
    subst e
    refine ⟨it.stop (D :: L) n' H' _ _ Ep _ (Nat.le_refl _), ?_⟩
    exact q D xs acc n' H' sB hD hDx (hacc.mono same_swap') E'.bag (hd n' acc hI)
/-- [e for x in .. for y in ..] -/
theorem wf_lc2 {wi wi1 : TI} {vs vs1 : List Nat} {Φ : Nat → List D → Prop} (h : WI c wi ρ n fun n1 ds => Lc2N c g t wi1 g1 t1 te vs vs1 ρ n1 ds Φ) : WF c (tLc2 wi g t wi1 g1 t1 te vs vs1) ρ n Φ := fun P L σ H Q E q => by
  refine h P L σ H _ E fun J ds n1 H1 s1 j1 it k => ?_
  exact lc2_go (E.step s1 j1) it k fun p xs es n' H' sB hp => q p xs es n' H' (s1.trans sB) (E.noneB s1 j1 hp)
end
end L3
/-! L7b: new dicts ({k: v}, dict(d)), data or one's own; sorted(d); x = y.pop(i). -/
namespace L3
open PySem L2
/-- a new dict -/
def WK (c : Ctx) (te : TE) (ρ : List SD) (n : Nat) (Φ : Nat → List (L2.Key × D) → Prop) : Prop := ∀ P L σ H Q, Env c P L n H σ ρ →
  (∀ p xs kvs n' H', Same (hid c.B H) (hid c.B H') → H p = none → H' p = some (.dK xs) → RpKs c.K (hid (p :: (L ++ c.O)) H') xs kvs → c.J n' H' → Φ n' kvs → Q (.ref p) H') → te σ H Q
section
variable {c : Ctx} {ρ : List SD} {n : Nat} {ta tb te tk tv : TE} {Φ : Nat → D → Prop} {Ψ : Out}
theorem wk_we (h : WK c te ρ n fun n1 kvs => Φ n1 (.dct kvs)) : WE c te ρ n Φ := fun P L σ H Q E q => by
  refine h P L σ H Q E fun p xs kvs n1 H1 s1 hp g1 r1 j1 k => q _ _ n1 H1 s1 j1 (.dct (.inl ?_) (r1.mono (same_hid_sub fun a ha => List.mem_cons_of_mem _ ha))) k
  rw [hid_out (E.noO p hp)]; exact g1
theorem ws_kown {i : Nat} (hi : i < ρ.length) (h : WK c te ρ n fun n1 kvs => Ψ.nx n1 (ρ.set i (.dk kvs))) : WS c (tAsg te (gName i)) ρ n Ψ := fun P L σ H Dn E A => by
  refine h P L σ H _ E fun p xs kvs n1 H1 s1 hp g1 r1 j1 k => ?_
  have w := E.new hp
  have E1 := E.absorb s1 j1 hp g1
  obtain ⟨Ls, sl0, sb⟩ := E.slots
  have hs : Same (hid (L ++ c.O) H) (hid (p :: (L ++ c.O)) H1) := fun a o q => by
    obtain ⟨q1, q2⟩ := hid_some.mp q
    have q3 := (hid_some.mp (E.sameLO s1 a o q)).2
    refine hid_some.mpr ⟨fun z => ?_, q3⟩
    rcases List.mem_cons.mp z with z | z
    · subst z; rw [hp] at q2; cases q2
    · exact q1 z
  have sl : Slots c.pr c.wd c.K (p :: (L ++ c.O)) H1 σ ρ Ls := sl0.move (fun l hl => E.own s1 l (sb.subset hl)) hs
  have nd : KDict c.pr c.wd c.K (p :: (L ++ c.O)) H1 p kvs := ⟨xs, g1, r1⟩
  obtain ⟨L1, L2, L3, sl2, eL, sub⟩ := Slots.setK nd (fun q => w.2.2 (sb.subset q)) i hi sl
  have mv : ∃ Lp : List Addr, (L1 ++ p :: L2).Sublist Lp ∧ Lp.Perm (p :: L) := by
    rw [eL] at sb
    have h5 : (L1 ++ L2).Sublist L := (List.Sublist.append_left sub L1).trans sb
    exact ins_sub h5
  obtain ⟨Lp, sLp, pLp⟩ := mv
  have mem : ∀ a, a ∈ Lp ++ c.O ↔ a ∈ p :: (L ++ c.O) := fun a => by
    rw [show p :: (L ++ c.O) = (p :: L) ++ c.O from rfl, List.mem_append, List.mem_append, pLp.mem_iff]
  refine A.nx Lp n1 _ _ _ ?_ k
  exact { nd := pLp.nodup_iff.mpr (List.nodup_cons.mpr ⟨w.2.2, E.nd⟩),
          fresh := fun l hl => E1.fresh l (pLp.mem_iff.mp hl),
          slots := ⟨_, sl2.move (fun _ _ => rfl) (same_hid_sub fun a ha => (mem a).mp ha), sLp⟩,
          lst := fun l hl => E1.lst l (pLp.mem_iff.mp hl),
          bag := j1, base := E1.base,
          pers := E1.pers.trans (same_hid_sub fun a ha => (mem a).mp ha),
          bO := E.bO, al := E1.al }
/-- {k: v} -/
theorem wk_disp1 {Φ : Nat → List (L2.Key × D) → Prop} (h : WE c tk ρ n fun n1 y => WE c tv ρ n1 fun n2 d => ∃ key, keyK y = some key ∧ Φ n2 [(key, d)]) : WK c (tDisp [(tk, tv)]) ρ n Φ := fun P L σ H Q E q => by
  intro p hp
  have E2 := E.newAny (o := .dK []) hp
  have T := E.newT (o := .dK []) hp
  have pO : p ∉ c.O := (E.new hp).2.1
  have pB : p ∉ c.B := fun z => pO (E.inO z)
  refine h P (p :: L) σ _ _ E2 fun y dy n1 H1 s1 j1 r1 h1 => ?_
  refine h1 P (p :: L) σ H1 _ (E2.step s1 j1) fun z dz n2 H2 s2 j2 r2 ⟨key, ek, k⟩ => ?_
  have s12 := s1.trans s2
  have h2 : H2 p = some (.dK []) := (hid_some.mp (s12 p _ (hid_some.mpr ⟨pB, upd_same⟩))).2
  have ey : y = kV key := keyK_V r1 ek
  subst ey
  refine ⟨h2, [(key, z)], rfl, by show 1 ≤ 15; decide, ?_⟩
  refine q p [(key, z)] [(key, dz)] n2 _ (same_upd_old hp (T.1.trans s12)) hp upd_same ?_ (fun b q hb => ?_) k
  · rw [hid_upd_in List.mem_cons_self]
    exact .cons r2 .nil
  · have hbO := E.bO b q hb
    exact (j2 b q hb).move (fun o h => by rw [upd_ne fun e : b = p => pO (e ▸ hbO.1)]; exact h) fun o h => by rw [upd_ne fun e : q = p => pO (e ▸ hbO.2.1)]; exact h
/-- dict(d) -/
theorem wk_copy {Φ : Nat → List (L2.Key × D) → Prop} (h : WE c te ρ n fun n1 d => ∃ kvs, d = .dct kvs ∧ Φ n1 kvs) : WK c (tCB (rDictD c.K) (tCons te tNil)) ρ n Φ := fun P L σ H Q E q => by
  refine h P L σ H _ E fun x d n1 H1 s1 j1 r1 ⟨kvs, e, k⟩ => ?_
  subst e
  cases r1 with
  | @dct a xs _ hs rk =>
    have E1 := E.step s1 j1
    refine ⟨a, xs, rfl, same_rd same_hid hs, fun p hp => ?_⟩
    have T := E1.newT (o := .dK xs) hp
    refine q p xs kvs n1 _ (s1.trans T.1) (E.noneB s1 j1 hp) upd_same ?_ T.2.1 k
    rw [hid_new_in hp]
    exact rk
/-- x = y.pop(i) -/
theorem ws_popAt {i j : Nat} {es : List D} (h1 : ρ[j]? = some (.own es)) (h : WE c te ρ n fun n1 d => ∃ (k : Nat) (y : D), d = .int (k : Int) ∧ es[k]? = some y ∧ k < 2 ^ 62 ∧ Ψ.nx n1 ((ρ.set j (.own (es.eraseIdx k))).set i (.val y))) :
    WS c (tAsg (tBM c.K "list" rPopAt (tVar j) (tCons te tNil)) (gName i)) ρ n Ψ := fun P L σ H Dn E A => by
  obtain ⟨m, ys, b1, b2, b3, b4⟩ := E.own_at h1
  refine ⟨.ref m, b1, .inl ⟨rfl, ys, .inl (.inl b2)⟩, ?_⟩
  refine h P L σ H _ E fun v d n1 H1 s1 j1 r1 ⟨k, y, e, hk, hk2, kk⟩ => ?_
  subst e
  cases r1
  have E1 := E.step s1 j1
  obtain ⟨m', ys', c1, c2, c3, c4⟩ := E1.own_at h1
  rw [b1] at c1
  cases c1
  obtain ⟨u, hu, ru⟩ := c3.get' hk
  have hlt : k < ys'.length := (List.getElem?_eq_some_iff.mp hu).1
  refine ⟨m, ys', (k : Int), k, u, rfl, rfl, c2, by omega, by omega, ?_, hu, ?_⟩
  · exact (ixN_seq (n := ys'.length) (i := (k : Int)) (j := k) (by unfold ixN; rw [if_pos (by omega), if_pos (by omega)]; simp)).1
  have E2 := (c4 (ys'.eraseIdx k) (es.eraseIdx k) (c3.eraseIdx k)).1
  obtain ⟨m'', ys'', f1, f2, f3, f4⟩ := E1.pers'.own_at h1
  rw [b1] at f1
  cases f1
  have E2p := (f4 (ys'.eraseIdx k) (es.eraseIdx k) (c3.eraseIdx k)).1.pers
  exact A.nx L n1 _ _ _ (E2.set i (ru.mono E2p)) kk
end
/-! ### sorted(d), keys ints -/
def rSortDI (K : PySem.W.Frag) : List V → Hp → VK → Prop := fun vs H Q => ∃ (O : List Addr) (v : V) (kvs : List (L2.Key × D)) (ks : List Int), vs = [v] ∧ Rp K (hid O H) v (.dct kvs) ∧ kvs.map (·.1) = ks.map Sum.inl ∧ ks.length < 64 ∧
  ∀ (ys : List Int) (p : Addr), ys.Perm ks → ys.Pairwise (· ≤ ·) → H p = none → Q (.ref p) (upd H p (.lst (ys.map V.int)))
theorem x_sortDI {X : Cx} (K : PySem.W.Frag) (hc : X.calm = true := by rfl) (hK : X.K = K := by rfl) : CallR X (.builtin "sorted") (rSortDI K) := by
  subst hK
  intro pins s σ H vs us Q I r h
  obtain ⟨O, v, kvs, ks, rfl, hx, hk, h64, q⟩ := h
  cases hx with
  | @dct a xs _ hs rk =>
    exact call_sortedDI hc pins s σ H _ us Q I r ⟨a, xs, ks, rfl, same_rd same_hid hs, rk.keys.trans hk, h64, q⟩
theorem rc_sortDI {K : PySem.W.Frag} {Φ : D → Prop} {kvs : List (L2.Key × D)} {ks : List Int} (hk : kvs.map (·.1) = ks.map Sum.inl) (h64 : ks.length < 64) (k : ∀ ys : List Int, ys.Perm ks → ys.Pairwise (· ≤ ·) → Φ (.lst (ys.map .int))) : RCD K (rSortDI K) [.dct kvs] Φ := fun O H xs Q rs no q => by
  obtain ⟨v, rfl, r⟩ := rs.one
  refine ⟨O, v, kvs, ks, rfl, r, hk, h64, fun ys p h1 h2 hp => ?_⟩
  exact q _ _ _ (same_upd_new hp) (.lst (.inl (hid_at (no p hp))) (RpAll.ofInts ys)) (k ys h1 h2)
end L3
/-! L7c: a dict of lists of one's own. -/
namespace L3
open PySem L2
inductive Tri (K : PySem.W.Frag) (Hh H : Hp) : List (L2.Key × V) → List Addr → List (L2.Key × List D) → Prop
  | nil : Tri K Hh H [] [] []
  | cons {k : L2.Key} {p : Addr} {ys : List V} {ds : List D} {xs : List (L2.Key × V)} {ps : List Addr} {rows : List (L2.Key × List D)} : H p = some (.lst ys) → RpAll K Hh ys ds → Tri K Hh H xs ps rows → Tri K Hh H ((k, .ref p) :: xs) (p :: ps) ((k, ds) :: rows)
section
variable {K : PySem.W.Frag} {Hh Hh' H H' : Hp}
theorem Tri.mv (e : ∀ v d, Rp K Hh v d → Rp K Hh' v d) : ∀ {xs : List (L2.Key × V)} {ps : List Addr} {rows : List (L2.Key × List D)}, (∀ p ∈ ps, H' p = H p) → Tri K Hh H xs ps rows → Tri K Hh' H' xs ps rows
  | _, _, _, _, .nil => .nil
  | _, _, _, h, .cons h1 h2 r => .cons ((h _ List.mem_cons_self).trans h1) (h2.imp e) (Tri.mv e (fun p hp => h p (List.mem_cons_of_mem _ hp)) r)
theorem Tri.ex : ∀ {xs : List (L2.Key × V)} {ps : List Addr} {rows : List (L2.Key × List D)}, Tri K Hh H xs ps rows → ∀ p ∈ ps, ∃ o, H p = some o
  | _, _, _, .nil, p, hp => nomatch hp
  | _, _, _, .cons h1 h2 r, p, hp => by
    rcases List.mem_cons.mp hp with q | q
    · subst q; exact ⟨_, h1⟩
    · exact r.ex p q
theorem Tri.snoc {k : L2.Key} {p : Addr} {ys : List V} {ds : List D} (h1 : H p = some (.lst ys)) (h2 : RpAll K Hh ys ds) : ∀ {xs : List (L2.Key × V)} {ps : List Addr} {rows : List (L2.Key × List D)}, Tri K Hh H xs ps rows → Tri K Hh H (xs ++ [(k, .ref p)]) (ps ++ [p]) (rows ++ [(k, ds)])
  | _, _, _, .nil => .cons h1 h2 .nil
  | _, _, _, .cons a b r => .cons a b (r.snoc h1 h2)
theorem Tri.keys : ∀ {xs : List (L2.Key × V)} {ps : List Addr} {rows : List (L2.Key × List D)}, Tri K Hh H xs ps rows → xs.map (·.1) = rows.map (·.1)
  | _, _, _, .nil => rfl
  | _, _, _, .cons a b r => by rw [List.map_cons, List.map_cons, r.keys]
theorem Tri.lenA : ∀ {xs : List (L2.Key × V)} {ps : List Addr} {rows : List (L2.Key × List D)}, Tri K Hh H xs ps rows → ps.length = rows.length
  | _, _, _, .nil => rfl
  | _, _, _, .cons a b r => by rw [List.length_cons, List.length_cons, r.lenA]
/-- read as data -/
theorem Tri.data (e : ∀ v d, Rp K Hh v d → Rp K Hh' v d) : ∀ {xs : List (L2.Key × V)} {ps : List Addr} {rows : List (L2.Key × List D)}, (∀ p ∈ ps, Hh' p = H p) → Tri K Hh H xs ps rows → RpKs K Hh' xs (rows.map fun r => (r.1, D.lst r.2))
  | _, _, _, _, .nil => .nil
  | _, _, _, h, .cons h1 h2 r => .cons (.lst (.inl ((h _ List.mem_cons_self).trans h1)) (h2.imp e)) (Tri.data e (fun p hp => h p (List.mem_cons_of_mem _ hp)) r)
/-- one more in a row -/
def appRow (k : L2.Key) (d : D) (rows : List (L2.Key × List D)) : List (L2.Key × List D) := rows.map fun r => if r.1 = k then (r.1, r.2 ++ [d]) else r
theorem appRow_keys {k : L2.Key} {d : D} {rows : List (L2.Key × List D)} : (appRow k d rows).map (·.1) = rows.map (·.1) := by
  unfold appRow
  rw [List.map_map]
  refine List.map_congr_left fun r _ => ?_
  show (if r.1 = k then (r.1, r.2 ++ [d]) else r).1 = r.1
  by_cases q : r.1 = k
  · rw [if_pos q]
  · rw [if_neg q]
theorem appRow_no {k : L2.Key} {d : D} : ∀ {rows : List (L2.Key × List D)}, k ∉ rows.map (·.1) → appRow k d rows = rows
  | [], _ => rfl
  | r :: rows, h => by
    have h1 : r.1 ≠ k := fun q => h (by rw [List.map_cons, q]; exact List.mem_cons_self)
    have h2 := appRow_no (d := d) (fun q => h (by rw [List.map_cons]; exact List.mem_cons_of_mem _ q))
    unfold appRow at *
    rw [List.map_cons, if_neg h1, h2]
theorem Tri.row {k : L2.Key} : ∀ {xs : List (L2.Key × V)} {ps : List Addr} {rows : List (L2.Key × List D)}, Tri K Hh H xs ps rows → k ∈ rows.map (·.1) → ∃ p ys, p ∈ ps ∧ valV xs k = some (.ref p) ∧ H p = some (.lst ys) ∧
    (ps.Nodup → (rows.map (·.1)).Nodup → ∀ (z : V) (d : D), Rp K Hh z d → (∃ r ∈ rows, r.1 = k ∧ ys.length = r.2.length) ∧ Tri K Hh (upd H p (.lst (ys ++ [z]))) xs ps (appRow k d rows))
  | _, _, _, .nil, h => nomatch h
  | _, _, _, .cons (k := k0) (p := p0) (ys := ys) (ds := ds) (xs := xs) (ps := ps) (rows := rows) h1 h2 r, h => by
    by_cases q : k0 = k
    · subst q
      refine ⟨p0, ys, List.mem_cons_self, by simp [valV], h1, fun nd nk z d rz => ⟨⟨_, List.mem_cons_self, rfl, h2.length⟩, ?_⟩⟩
      have e : appRow k0 d ((k0, ds) :: rows) = (k0, ds ++ [d]) :: rows := by
        have := appRow_no (d := d) (List.nodup_cons.mp nk).1
        unfold appRow at *
        rw [List.map_cons, this, if_pos rfl]
      rw [e]
      refine .cons upd_same (h2.append (.cons rz .nil)) (r.mv (fun _ _ q => q) fun p hp => upd_ne fun e => (List.nodup_cons.mp nd).1 (e ▸ hp))
    · have hk : k ∈ rows.map (·.1) := by
        rcases List.mem_cons.mp h with z | z
        · exact absurd z.symm q
        · exact z
      obtain ⟨p, ys', a1, a2, a3, a4⟩ := r.row hk
      refine ⟨p, ys', List.mem_cons_of_mem _ a1, ?_, a3, fun nd nk z d rz => ?_⟩
      · unfold valV at *
        rw [List.find?_cons_of_neg (by simpa using q)]
        exact a2
      · obtain ⟨⟨rr, b1, b2, b3⟩, b4⟩ := a4 (List.nodup_cons.mp nd).2 (List.nodup_cons.mp nk).2 z d rz
        refine ⟨⟨rr, List.mem_cons_of_mem _ b1, b2, b3⟩, ?_⟩
        have e : appRow k d ((k0, ds) :: rows) = (k0, ds) :: appRow k d rows := by
          unfold appRow
          rw [List.map_cons, if_neg q]
        rw [e]
        exact .cons (by rw [upd_ne fun e : p0 = p => (List.nodup_cons.mp nd).1 (by rw [e]; exact a1)]; exact h1) h2 b4
end
/-- a dict of lists of one's own: its address, the lists' addresses, what is in them -/
def DL (l : Addr) (ps : List Addr) (rows : List (L2.Key × List D)) : OT where
  ls := l :: ps
  R := fun _ _ K O H v => v = .ref l ∧ ∃ xs, H l = some (.dK xs) ∧ Tri K (hid O H) H xs ps rows
  mv := fun {pr wd K O O' H H' v} h hl e => by
    obtain ⟨h1, xs, h2, h3⟩ := h
    exact ⟨h1, xs, (hl _ List.mem_cons_self).trans h2, h3.mv e fun p hp => hl p (List.mem_cons_of_mem _ hp)⟩
  ex := fun {pr wd K O H v} h x hx => by
    obtain ⟨h1, xs, h2, h3⟩ := h
    rcases List.mem_cons.mp hx with q | q
    · subst q; exact ⟨_, h2⟩
    · exact h3.ex x q
section
variable {pr : Program} {wd : World} {K : PySem.W.Frag} {O : List Addr} {H : Hp}
theorem Slots.setOT {T : OT} {v : V} (hx : T.R pr wd K O H v) : ∀ {σ : List (Option V)} {ρ : List SD} {L : List Addr} (i : Nat), i < ρ.length → Slots pr wd K O H σ ρ L →
    ∃ L1 L2 L3, Slots pr wd K O H (σ.set i (some v)) (ρ.set i (.ot T)) (L1 ++ (T.ls ++ L2)) ∧ L = L1 ++ L3 ∧ L2.Sublist L3
  | _, _, _, _, h, .nil => by simp at h
  | _, _, L, 0, _, .un s => ⟨[], L, L, .ot hx rfl s, rfl, List.Sublist.refl _⟩
  | _, _, L, 0, _, .val _ s => ⟨[], L, L, .ot hx rfl s, rfl, List.Sublist.refl _⟩
  | _, _, _ :: L, 0, _, .own _ _ s => ⟨[], L, _, .ot hx rfl s, rfl, List.sublist_cons_self _ _⟩
  | _, _, _ :: L, 0, _, .dic _ s => ⟨[], L, _, .ot hx rfl s, rfl, List.sublist_cons_self _ _⟩
  | _, _, _ :: L, 0, _, .dk _ s => ⟨[], L, _, .ot hx rfl s, rfl, List.sublist_cons_self _ _⟩
  | _, _, _ :: L, 0, _, .tw _ s => ⟨[], L, _, .ot hx rfl s, rfl, List.sublist_cons_self _ _⟩
  | _, _, _, 0, _, .ot (L := L) _ q s => ⟨[], L, _, .ot hx rfl s, rfl, by rw [q]; exact List.sublist_append_right _ _⟩
  | _, _, _, i + 1, h, .un s => by
    obtain ⟨L1, L2, L3, a, b, d⟩ := Slots.setOT hx i (by simpa using h) s
    exact ⟨L1, L2, L3, .un a, b, d⟩
  | _, _, _, i + 1, h, .val g s => by
    obtain ⟨L1, L2, L3, a, b, d⟩ := Slots.setOT hx i (by simpa using h) s
    exact ⟨L1, L2, L3, .val g a, b, d⟩
  | _, _, _, i + 1, h, .own g r s => by
    obtain ⟨L1, L2, L3, a, b, d⟩ := Slots.setOT hx i (by simpa using h) s
    exact ⟨_ :: L1, L2, L3, .own g r a, by rw [b]; rfl, d⟩
  | _, _, _, i + 1, h, .dic g s => by
    obtain ⟨L1, L2, L3, a, b, d⟩ := Slots.setOT hx i (by simpa using h) s
    exact ⟨_ :: L1, L2, L3, .dic g a, by rw [b]; rfl, d⟩
  | _, _, _, i + 1, h, .dk g s => by
    obtain ⟨L1, L2, L3, a, b, d⟩ := Slots.setOT hx i (by simpa using h) s
    exact ⟨_ :: L1, L2, L3, .dk g a, by rw [b]; rfl, d⟩
  | _, _, _, i + 1, h, .tw g s => by
    obtain ⟨L1, L2, L3, a, b, d⟩ := Slots.setOT hx i (by simpa using h) s
    exact ⟨_ :: L1, L2, L3, .tw g a, by rw [b]; rfl, d⟩
  | _, _, _, i + 1, h, .ot g q s => by
    obtain ⟨L1, L2, L3, a, b, d⟩ := Slots.setOT hx i (by simpa using h) s
    exact ⟨_ ++ L1, L2, L3, .ot g (List.append_assoc _ _ _) a, by rw [q, b, List.append_assoc], d⟩
end
section
variable {c : Ctx} {ρ : List SD} {n : Nat} {P : Hp} {L : List Addr} {H : Hp} {σ : List (Option V)}
/-- a structure given up: read from now on -/
theorem Env.otFreezeG (E : Env c P L n H σ ρ) {i : Nat} {T : OT} {d : D} (h : ρ[i]? = some (.ot T)) (fz : ∀ O' v, (∀ a ∈ T.ls, a ∉ O') → Same (hid (L ++ c.O) H) (hid O' H) → T.R c.pr c.wd c.K (L ++ c.O) H v → Rp c.K (hid O' H) v d) : ∃ L', Env c P L' n H σ (ρ.set i (.val d)) ∧ L'.Sublist L := by
  obtain ⟨Ls, sl, sb⟩ := E.slots
  obtain ⟨L1, L2, v, h1, h2, t, h4⟩ := sl.otAt h
  have nd := sb.nodup E.nd
  rw [h1] at nd
  have d1 := List.nodup_append.mp nd
  have d2 := List.nodup_append.mp d1.2.1
  have nin : ∀ a ∈ T.ls, a ∉ L.filter (fun x => !decide (x ∈ T.ls)) := fun a ha q => by
    have := (List.mem_filter.mp q).2
    simp [ha] at this
  have inL : ∀ a ∈ T.ls, a ∈ L := fun a ha => sb.subset (by rw [h1]; exact List.mem_append_right _ (List.mem_append_left _ ha))
  have sub : (L.filter (fun x => !decide (x ∈ T.ls))).Sublist L := List.filter_sublist
  have nO : ∀ a ∈ T.ls, a ∉ L.filter (fun x => !decide (x ∈ T.ls)) ++ c.O := fun a ha q => by
    rcases List.mem_append.mp q with q | q
    · exact nin a ha q
    · exact (E.fresh a (inL a ha)).2 q
  have se : Same (hid (L ++ c.O) H) (hid (L.filter (fun x => !decide (x ∈ T.ls)) ++ c.O) H) := same_hid_sub fun a ha => by
    rcases List.mem_append.mp ha with q | q
    · exact List.mem_append_left _ (sub.subset q)
    · exact List.mem_append_right _ q
  have sb2 : (L1 ++ L2).Sublist (L.filter (fun x => !decide (x ∈ T.ls))) := by
    have q := sb.filter (fun x => !decide (x ∈ T.ls))
    rw [h1, List.filter_append, List.filter_append] at q
    have e1 : L1.filter (fun x => !decide (x ∈ T.ls)) = L1 := List.filter_eq_self.mpr fun a ha => by
      have : a ∉ T.ls := fun z => d1.2.2 a ha a (List.mem_append_left _ z) rfl
      simp [this]
    have e2 : L2.filter (fun x => !decide (x ∈ T.ls)) = L2 := List.filter_eq_self.mpr fun a ha => by
      have : a ∉ T.ls := fun z => d2.2.2 a z a ha rfl
      simp [this]
    have e3 : T.ls.filter (fun x => !decide (x ∈ T.ls)) = [] := List.filter_eq_nil_iff.mpr fun a ha => by simp [ha]
    rw [e1, e2, e3] at q
    exact q
  exact ⟨_, { nd := sub.nodup E.nd, fresh := fun l hl => E.fresh l (sub.subset hl), slots := ⟨_, (h4 _ _ (fun _ _ => rfl) se).2 _ (fz _ v nO se t), sb2⟩, lst := fun l hl => E.lst l (sub.subset hl), base := E.base, pers := E.pers.trans se, bO := E.bO, al := E.al, bag := E.bag }, sub⟩
theorem Env.dlFreeze (E : Env c P L n H σ ρ) {i : Nat} {l : Addr} {ps : List Addr} {rows : List (L2.Key × List D)} (h : ρ[i]? = some (.ot (DL l ps rows))) : ∃ L', Env c P L' n H σ (ρ.set i (.val (.dct (rows.map fun r => (r.1, .lst r.2))))) ∧ L'.Sublist L :=
  E.otFreezeG h fun O' v hO se t => by
    obtain ⟨t1, xs, t2, t3⟩ := t
    subst t1
    refine .dct (.inl (by rw [hid_out (hO l List.mem_cons_self)]; exact t2)) (t3.data (fun _ _ r => r.mono se) fun p hp => ?_)
    exact hid_out (hO p (List.mem_cons_of_mem _ hp))
end
section
variable {c : Ctx} {ρ : List SD} {n : Nat} {ta tb te tk tj ty tv : TE} {t u : TT} {as : TA} {Φ : Nat → D → Prop} {Ψ : Out} {ts us : TS} {g : TG} {wi : TI} {vs : List Nat}
theorem ws_freezeDL (i : Nat) {l : Addr} {ps : List Addr} {rows : List (L2.Key × List D)} (h : ρ[i]? = some (.ot (DL l ps rows))) (k : WS c ts (ρ.set i (.val (.dct (rows.map fun r => (r.1, .lst r.2))))) n Ψ) : WS c ts ρ n Ψ := fun P L σ H Dn E A => by
  obtain ⟨L', E', _⟩ := E.dlFreeze h
  exact k P L' σ H Dn E' A
theorem wt_lookDL (i : Nat) {Φ : Nat → Bool → Prop} {l : Addr} {ps : List Addr} {rows : List (L2.Key × List D)} (h : ρ[i]? = some (.ot (DL l ps rows))) (k : WT c t (ρ.set i (.val (.dct (rows.map fun r => (r.1, .lst r.2))))) n Φ) : WT c t ρ n Φ := fun P L σ H Q E q => by
  obtain ⟨L', E', sub⟩ := E.dlFreeze h
  exact k P L' σ H Q E' fun b n1 H1 s1 j1 k1 => q b n1 H1 s1 j1 k1
/-- x[k].append(e) -/
theorem ws_dlapp {i : Nat} {l : Addr} {ps : List Addr} {rows : List (L2.Key × List D)} (h0 : ρ[i]? = some (.ot (DL l ps rows))) (hd : (rows.map (·.1)).Nodup) (h : WE c ty ρ n fun n1 y => ∃ k, keyK y = some k ∧ k ∈ rows.map (·.1) ∧ WE c te ρ n1 fun n2 d => (∀ r ∈ rows, r.2.length < sizeLine) ∧ Ψ.nx n2 (ρ.set i (.ot (DL l ps (appRow k d rows))))) :
    WS c (tDrop (tBM c.K "list" rAppend (tDGet (tVar i) ty) (tCons te tNil))) ρ n Ψ := fun P L σ H Dn E A => by
  obtain ⟨v, h1, ⟨t1, _⟩, _, _⟩ := E.ot h0
  subst t1
  refine ⟨.ref l, h1, ?_⟩
  refine h P L σ H _ E fun y dy n1 H1 s1 j1 r1 ⟨k, ek, hk, h2⟩ => ?_
  have E1 := E.step s1 j1
  obtain ⟨v, g1, ⟨u1, xs, u2, u3⟩, inL, nd⟩ := E1.ot h0
  subst u1
  obtain ⟨p, ys, a1, a2, a3, a4⟩ := u3.row hk
  refine ⟨l, .ref p, rfl, .inl ⟨xs, k, .inl u2, keyK_V r1 ek, a2.symm⟩, .inl ⟨rfl, _, .inl (.inl a3)⟩, ?_⟩
  refine h2 P L σ H1 _ E1 fun z d n2 H2 s2 j2 r2 ⟨hz, kk⟩ => ?_
  have E2 := E1.step s2 j2
  obtain ⟨v, f1, ⟨w1, xs', w2, w3⟩, inL2, nd2⟩ := E2.ot h0
  subst w1
  have es : H2 l = H1 l := E1.own s2 l (inL l List.mem_cons_self)
  rw [es, u2] at w2
  cases w2
  obtain ⟨p', ys', b1, b2, b3, b4⟩ := w3.row hk
  rw [a2] at b2
  cases b2
  have npl : l ∉ ps := (List.nodup_cons.mp nd2).1
  obtain ⟨⟨rr, c1, c2, c3⟩, c4⟩ := b4 (List.nodup_cons.mp nd2).2 hd z d r2
  refine ⟨p, ys', z, rfl, rfl, b3, by rw [c3]; exact hz rr c1, ?_⟩
  have pin : p ∈ (DL l ps rows).ls := List.mem_cons_of_mem _ b1
  have hm : p ∈ L ++ c.O := List.mem_append_left _ (inL2 p pin)
  refine A.nx L n2 _ σ _ (E2.otUpd (T' := DL l ps (appRow k d rows)) h0 pin rfl f1 ⟨rfl, xs, ?_, ?_⟩) kk
  · rw [upd_ne fun e : l = p => npl (e ▸ b1), es]; exact u2
  · rw [hid_upd_in hm]; exact c4
theorem rows0_map {ks : List L2.Key} : (ks.map fun k => (k, ([] : List D))).map (·.1) = ks := by
  rw [List.map_map]
  exact List.map_id' ks
theorem putK_new {xs : List (L2.Key × V)} {k : L2.Key} {v : V} (h : k ∉ xs.map (·.1)) : putK xs k v = xs ++ [(k, v)] := by
  unfold putK
  rw [if_neg]
  intro q
  obtain ⟨x, hx, e⟩ := List.any_eq_true.mp q
  exact h (by rw [← of_decide_eq_true e]; exact List.mem_map_of_mem hx)
/-- x = {y: [] for y in ..} -/
theorem ws_dcl {i : Nat} (hi : i < ρ.length) (h : WI c wi ρ n fun n1 ds => ∃ ks : List L2.Key, ds = ks.map kD ∧ ks.Nodup ∧ ks.length < sizeLine ∧
    (∀ d ∈ ds, WG c (RW vs) g d (wipeR ρ vs) n1 fun ρ2 => WT c t ρ2 n1 fun m2 b => m2 = n1 ∧ b = true ∧ WE c tk ρ2 n1 fun m3 y => m3 = n1 ∧ y = d ∧ WF c tv ρ2 n1 fun m4 es => m4 = n1 ∧ es = []) ∧
    (∀ l ps, Ψ.nx n1 (ρ.set i (.ot (DL l ps (ks.map fun k => (k, []))))))) : WS c (tAsg (tDc wi g t tk tv vs) (gName i)) ρ n Ψ := fun P L σ H Dn E A => by
  refine h P L σ H _ E fun J ds n1 H1 s1 j1 it ⟨ks, eds, hnd, hz, hs, hd⟩ => ?_
  intro D hD
  have E0 := E.step s1 j1
  have E1 := E0.pers'
  obtain ⟨Ls, sl, sb⟩ := E1.slots
  obtain ⟨Lw, slw, sbw⟩ := sl.wipe vs
  have Ew : Env c (hid (L ++ c.O) H1) L n1 H1 (wipe σ vs) (wipeR ρ vs) := E1.reslot slw (sbw.trans sb)
  have E2 := Ew.newAny (o := .dK []) hD
  have DnL : D ∉ L := (E1.new hD).2.2
  have DnO : D ∉ L ++ c.O := E1.noO D hD
  refine ⟨fun i m H' => m + i = ds.length ∧ i ≤ ks.length ∧ ∃ xs ps, Env c (hid (L ++ c.O) H1) (ps.reverse ++ D :: L) n1 H' (wipe σ vs) (wipeR ρ vs) ∧ H' D = some (.dK xs) ∧ Tri c.K (fun _ => none) H' xs ps ((ks.take i).map fun k => (k, [])) ∧ Same (hid c.B H1) (hid c.B H') ∧ (∀ p ∈ ps, H1 p = none), ⟨ds.length, rfl, Nat.zero_le _, [], [], E2, upd_same, .nil, (E1.newT hD).1, fun p hp => nomatch hp⟩, ?_⟩
  rintro i m H' ⟨hm, hik, xs, ps, E', hDx, tri, sB, hfr⟩
  have hlen : ds.length = ks.length := by rw [eds, List.length_map]
  by_cases hi2 : i < ds.length
  · right
    have hg : ds[i]? = some ds[i] := List.getElem?_eq_getElem hi2
    obtain ⟨go, yl⟩ := it.go (ps.reverse ++ D :: L) n1 H' _ _ E' i _ hg
    refine ⟨go, fun H2 => i + 1 ≤ ks.length ∧ ∃ xs ps, Env c (hid (L ++ c.O) H1) (ps.reverse ++ D :: L) n1 H2 (wipe σ vs) (wipeR ρ vs) ∧ H2 D = some (.dK xs) ∧ Tri c.K (fun _ => none) H2 xs ps ((ks.take (i + 1)).map fun k => (k, [])) ∧ Same (hid c.B H1) (hid c.B H2) ∧ (∀ p ∈ ps, H1 p = none), ?_, ?_⟩
    · rintro H2 ⟨a0, xs2, ps2, a1⟩
      exact ⟨m - 1, by omega, by omega, a0, xs2, ps2, a1⟩
    · intro x H2 hy
      obtain ⟨sm, rx⟩ := yl x H2 hy
      have z := E'.same sm
      have E2' := E'.step z.1 z.2
      refine hs _ (List.getElem_mem hi2) _ _ _ H2 x _ E2' rx fun σ3 ρ3 E3 hw k3 => ?_
      refine ⟨hw.trans (wipe_idem σ vs), ?_⟩
      refine k3 _ _ σ3 H2 _ E3 fun b n4 H4 s4 j4 ⟨en4, eb, k4⟩ => ?_
      subst n4 eb
      rw [if_pos rfl]
      refine k4 _ _ σ3 H4 _ (E3.step s4 j4) fun y d n5 H5 s5 j5 r5 ⟨en5, ed, k5⟩ => ?_
      subst n5 ed
      refine k5 _ _ σ3 H5 _ ((E3.step s4 j4).step s5 j5) fun p es ds6 n6 H6 s6 hp hp6 r6 j6 ⟨en6, e6⟩ => ?_
      subst n6 e6
      cases r6
      have s46 := (s4.trans s5).trans s6
      have E6 := E2'.step s46 j6
      have hkl : i < ks.length := by omega
      have ek : ds[i] = kD ks[i] := by
        have : ds[i]? = (ks.map kD)[i]? := by rw [eds]
        rw [hg, List.getElem?_map, List.getElem?_eq_getElem hkl] at this
        exact Option.some.inj this
      have ey : y = kV ks[i] := by
        rw [ek] at r5
        cases hq : ks[i] with
        | inl i => rw [hq] at r5; cases r5; rfl
        | inr i => rw [hq] at r5; cases r5; rfl
      have D6 : H6 D = some (.dK xs) := by
        rw [E2'.own s46 D (List.mem_append_right _ List.mem_cons_self)]
        exact sm D _ hDx
      have nk : ks[i] ∉ xs.map (·.1) := fun q => by
        rw [tri.keys, rows0_map] at q
        obtain ⟨j, hj, e⟩ := List.mem_iff_getElem.mp q
        have hj2 : j < i := by have := hj; rw [List.length_take] at this; omega
        rw [List.getElem_take] at e
        have := (List.getElem_inj hnd).mp e
        omega
      have xl : xs.length = i := by
        have := congrArg List.length tri.keys
        rw [List.length_map, rows0_map, List.length_take] at this; omega
      have e5 := ((E3.step s4 j4).step s5 j5)
      have Ea : Env c (hid (L ++ c.O) H1) (p :: (ps.reverse ++ D :: L)) n1 H6 (wipe σ vs) (wipeR ρ vs) := by
        have E5' := E2'.step (s4.trans s5) j5
        exact E5'.absorb s6 j6 hp hp6
      have npD : p ≠ D := fun q => by
        have := (E2'.own (s4.trans s5) D (List.mem_append_right _ List.mem_cons_self))
        rw [sm D _ hDx, ← q, hp] at this
        cases this
      have hp1 : H1 p = none := E1.noneB (sB.trans (z.1.trans (s4.trans s5))) (show c.J n1 H5 from j5) hp
      refine ⟨xs, ks[i], ey, D6, by omega, by omega, putK xs ks[i] (.ref p), ps ++ [p], ?_, upd_same, ?_, ?_, fun q hq => ?_⟩
      · rw [List.reverse_append]
        show Env c _ (p :: (ps.reverse ++ D :: L)) n1 _ _ _
        obtain ⟨Ls5, sl5, sb5⟩ := Ea.slots
        have q5 := sl5.inj slw
        subst q5
        exact Ea.growAny (List.mem_cons_of_mem _ (List.mem_append_right _ List.mem_cons_self)) sl5 sb5 fun q => DnL ((sbw.trans sb).subset q)
      · rw [putK_new nk, List.take_add_one, List.getElem?_eq_getElem hkl, List.map_append]
        refine Tri.snoc (ys := []) ?_ .nil (tri.mv (fun _ _ r => r) fun q hq => ?_)
        · rw [upd_ne npD]; exact hp6
        · have qD : q ≠ D := fun e => by
            subst e
            have := E'.nd
            exact (List.nodup_append.mp this).2.2 q (List.mem_reverse.mpr hq) q List.mem_cons_self rfl
          rw [upd_ne qD, E2'.own s46 q (List.mem_append_left _ (List.mem_reverse.mpr hq))]
          obtain ⟨o, ho⟩ := tri.ex q hq
          rw [sm q _ ho, ho]
      · exact same_upd_old hD ((sB.trans z.1).trans s46)
      · rcases List.mem_append.mp hq with w | w
        · exact hfr q w
        · rw [List.mem_singleton.mp w]; exact hp1
  · left
    have e : i = ds.length := by omega
    subst e
    refine ⟨it.stop _ n1 H' _ _ E' _ (Nat.le_refl _), ?_⟩
    rw [hlen, List.take_length] at tri
    have hs2 : Same (hid (L ++ c.O) H1) (hid ((ps.reverse ++ D :: L) ++ c.O) H') := fun a o q => by
      obtain ⟨q1, q2⟩ := hid_some.mp q
      have q3 := (hid_some.mp (E1.sameLO sB a o q)).2
      refine hid_some.mpr ⟨fun w => ?_, q3⟩
      rcases List.mem_append.mp w with w | w
      · rcases List.mem_append.mp w with w | w
        · rw [hfr a (List.mem_reverse.mp w)] at q2; cases q2
        · rcases List.mem_cons.mp w with w | w
          · subst w; rw [hD] at q2; cases q2
          · exact q1 (List.mem_append_left _ w)
      · exact q1 (List.mem_append_right _ w)
    have sl2 : Slots c.pr c.wd c.K ((ps.reverse ++ D :: L) ++ c.O) H' σ ρ Ls := sl.move (fun l hl => E1.own sB l (sb.subset hl)) hs2
    have tt : (DL D ps (ks.map fun k => (k, []))).R c.pr c.wd c.K ((ps.reverse ++ D :: L) ++ c.O) H' (.ref D) := ⟨rfl, xs, hDx, tri.mv (fun _ _ r => r.mono fun a o (q : (none : Option HO) = some o) => nomatch q) fun _ _ => rfl⟩
    obtain ⟨M1, M2, M3, q1, q2, q3⟩ := Slots.setOT tt _ hi sl2
    have nd0 := E'.nd
    have perm : (M1 ++ ((D :: ps) ++ M2)).Perm ((D :: ps) ++ (M1 ++ M2)) := by
      rw [← List.append_assoc, ← List.append_assoc]
      exact List.perm_append_comm.append_right _
    have sub : (M1 ++ M2).Sublist L := by
      rw [q2] at sb
      exact (List.Sublist.append_left q3 M1).trans sb
    -- the owned in a row that fits
    obtain ⟨Lp, sLp, pLp⟩ : ∃ Lp : List Addr, (M1 ++ ((D :: ps) ++ M2)).Sublist Lp ∧ Lp.Perm (ps.reverse ++ D :: L) := by
      obtain ⟨Lr, pr⟩ := sub.exists_perm_append
      refine ⟨M1 ++ ((D :: ps) ++ M2) ++ Lr, List.sublist_append_left _ _, ?_⟩
      refine (perm.append_right _).trans ?_
      rw [List.append_assoc]
      refine (List.Perm.append_left _ pr.symm).trans ?_
      show (D :: (ps ++ L)).Perm _
      refine List.Perm.trans ?_ List.perm_middle.symm
      exact ((List.reverse_perm ps).symm.append_right L).cons D
    have mem : ∀ a, a ∈ Lp ++ c.O → a ∈ (ps.reverse ++ D :: L) ++ c.O := fun a q => by
      rcases List.mem_append.mp q with q | q
      · exact List.mem_append_left _ (pLp.mem_iff.mp q)
      · exact List.mem_append_right _ q
    refine A.nx Lp n1 H' _ _ ?_ (hd D ps)
    exact { nd := pLp.nodup_iff.mpr E'.nd, fresh := fun l hl => E'.fresh l (pLp.mem_iff.mp hl), slots := ⟨_, q1.move (fun _ _ => rfl) (same_hid_sub mem), sLp⟩, lst := fun l hl => E'.lst l (pLp.mem_iff.mp hl), bag := E'.bag, base := E'.base, pers := (E0.pers.trans hs2).trans (same_hid_sub mem), bO := E'.bO, al := E'.al }
/-- [.. for k in d for ..] -/
theorem wf_lc2K {i : Nat} {kvs : List (L2.Key × D)} {wi1 : TI} {g1 : TG} {t1 : TT} {vs1 : List Nat} {Φ : Nat → List D → Prop} (h0 : ρ[i]? = some (.val (.dct kvs))) (h : ∀ H0', Lc2N { c with H0 := H0' } g t wi1 g1 t1 te vs vs1 ρ n (keysD kvs) Φ) :
    WF c (tLockEOr (tLc2 (iKeys (tVar i)) g t wi1 g1 t1 te vs vs1)) ρ n Φ := fun P L σ H Q E q => by
  obtain ⟨Ls, sl, sb⟩ := E.slots
  obtain ⟨v, hv, rv⟩ := sl.get h0
  cases rv with
  | @dct d xs _ hd rk =>
    rcases hd with hd | ⟨od, hd⟩
    · left
      have hdO : d ∉ L ++ c.O := (hid_some.mp hd).1
      have hdL : d ∉ L := fun q => hdO (List.mem_append_left _ q)
      have hdc : d ∉ c.O := fun q => hdO (List.mem_append_right _ q)
      have hH := (hid_some.mp hd).2
      refine ⟨d, .dK xs, hH, True.intro, fun od => ?_⟩
      have AG : Ag d xs H (upd H d (.frz od (.dK xs))) := ⟨fun a ha => upd_ne ha, .inl hH, .inr ⟨od, upd_same⟩⟩
      generalize hH1 : upd H d (.frz od (.dK xs)) = H1 at AG
      have hd1 : H1 d = some (.frz od (.dK xs)) := by rw [← hH1]; exact upd_same
      have E' : Env { c with H0 := hid L H1 } (hid (L ++ c.O) H1) L n H1 σ ρ :=
        { nd := E.nd, fresh := fun l hl => ⟨hid_in hl, (E.fresh l hl).2⟩,
          slots := ⟨Ls, sl.ag AG hdO fun q => hdL (sb.subset q), sb⟩,
          lst := fun l hl => by
            rw [AG.off l fun e => hdL (e ▸ hl)]; exact E.lst l hl,
          bag := fun b q hb => (E.bag b q hb).ag AG,
          base := fun a o e => by
            obtain ⟨e1, e2⟩ := hid_some.mp e
            exact hid_some.mpr ⟨e1, (hid_some.mp e2).2⟩,
          pers := Same.refl _, bO := E.bO,
          al := fun o ho => by rw [AG.off o fun e => hdc (e ▸ ho)]; exact E.al o ho }
      refine ⟨.ref d, hv, d, od, rfl, .inl ⟨xs, hd1, ?_⟩⟩
      show tLc2 (fun _ H R => R (Itk d od xs) H) g t wi1 g1 t1 te vs vs1 σ H1 (fun v H' => H' d = some (.frz od (.dK xs)) ∧ Q v (upd H' d (.dK xs)))
      refine lc2_go (c := { c with H0 := hid L H1 }) (P := hid (L ++ c.O) H1) (L := L) (J := Itk d od xs) E' (it_k (hid_some.mpr ⟨hdO, hd1⟩) (rk.ag (AG.hid hdO))) (h _) fun p ys es n2 H2 s2 hp hp2 r2 j2 k => ?_
      have hdB : d ∉ c.B := fun q => hdc (E.inO q)
      have hd2 : H2 d = some (.frz od (.dK xs)) := (hid_some.mp (s2 d _ (hid_some.mpr ⟨hdB, hd1⟩))).2
      have AG2 : Ag d xs H2 (upd H2 d (.dK xs)) := ⟨fun a ha => upd_ne ha, .inr ⟨od, hd2⟩, .inl upd_same⟩
      have npd : p ≠ d := fun e => by rw [e, hd1] at hp; cases hp
      refine ⟨hd2, q p ys es n2 _ (fun a o e => ?_) ?_ (by rw [upd_ne npd]; exact hp2) (r2.ag (AG2.hid fun q => ?_)) (fun b q hb => (j2 b q hb).ag AG2) k⟩
      · obtain ⟨e1, e2⟩ := hid_some.mp e
        refine hid_some.mpr ⟨e1, ?_⟩
        by_cases q : a = d
        · subst q; rw [upd_same, ← e2, hH]
        · rw [upd_ne q]
          have : H1 a = some o := by rw [AG.off a q]; exact e2
          exact (hid_some.mp (s2 a o (hid_some.mpr ⟨e1, this⟩))).2
      · rw [← AG.off p npd]; exact hp
      · rcases List.mem_cons.mp q with q | q
        · exact npd q.symm
        · exact hdO q
    · right
      refine ⟨.ref d, hv, d, od, rfl, .inl ⟨xs, (hid_some.mp hd).2, ?_⟩⟩
      show tLc2 (fun _ H R => R (Itk d od xs) H) g t wi1 g1 t1 te vs vs1 σ H Q
      exact lc2_go (c := c) (L := L) (J := Itk d od xs) E.pers' (it_k hd rk) (h c.H0) q
end
end L3
/-! L7d: sorted of a list with one item at most, whatever it is. -/
namespace L3
open PySem L2
def rSortE (K : PySem.W.Frag) : List V → Hp → VK → Prop := fun vs H Q => rSortD K vs H Q ∨ ∃ (O : List Addr) (v : V) (ds : List D), vs = [v] ∧ Rp K (hid O H) v (.lst ds) ∧ ds.length ≤ 1 ∧ ∀ l ys, H l = none → RpAll K (hid O H) ys ds → Q (.ref l) (upd H l (.lst ys))
theorem perm1 {α : Type} {a b : List α} (h : a.Perm b) (hl : b.length ≤ 1) : a = b := by
  match b, hl with
  | [], _ => exact h.eq_nil
  | [x], _ => exact List.perm_singleton.mp h
theorem cr_sortE {X : Cx} (hu : X.A.units + 64 < cLine) : CallR X (.builtin "sorted") (rSortE X.K) := by
  intro pins s σ H vs us Q I r h
  rcases h with h | h
  · exact cr_sortD hu pins s σ H vs us Q I r h
  · obtain ⟨O, v, ds, rfl, rv, h1, q⟩ := h
    cases rv with
    | @lst a xs _ hs ha =>
      rw [Vals.ref1 r]
      obtain ⟨its, n, rv, e, hz⟩ := inv_rdL I (same_rd same_hid hs)
      have hlen : its.length ≤ 1 := by rw [← rv.length, ha.length]; exact h1
      refine Srt.sorted_any (s := s) (vs := its) ⟨_, e, rfl, n, rfl⟩ (by rw [← rv.length]; exact hz) (fun h2 => absurd h2 (by omega)) fun out hp => ?_
      have eo := perm1 hp hlen
      subst eo
      obtain ⟨ep, he'⟩ := PyProof.Rows.sortedAll_at s.heap out out.toArray
      exact ⟨.ref _, upd H (s.heap.objs.size + 1) (.lst xs), I.laid (t' := s.toks) (fun _ _ => PyProof.Rows.sortedAll_old) (Nat.le_succ _) ⟨hz, out, ep, rv, he'⟩, rfl, q _ xs (I.hok.fresh (Nat.le_succ _)) ha⟩
theorem x_sortE {X : Cx} (K : PySem.W.Frag) (hu : X.A.units + 64 < cLine) (hK : X.K = K := by rfl) : CallR X (.builtin "sorted") (rSortE K) := hK ▸ cr_sortE hu
theorem sortD_one {ds : List D} (h : ds.length ≤ 1) : sortD ds = ds := perm1 (List.mergeSort_perm _ _) h
theorem rc_sortE {K : PySem.W.Frag} {Φ : D → Prop} {ds : List D} (hL : ds.length ≤ sizeLine) (h : 2 ≤ ds.length → plainAll ds = true ∧ PySem.W.AllAlike (ds.map dpy) ∧ PySem.W.Sortable (ds.map dpy) ∧ ∀ d ∈ ds, (dpy d).depth ≤ 50) (k : Φ (.lst (sortD ds))) : RCD K (rSortE K) [.lst ds] Φ := fun O H xs Q rs no q => by
  by_cases h2 : 2 ≤ ds.length
  · obtain ⟨a1, a2, a3, a4⟩ := h h2
    exact .inl (rc_sort a1 a2 a3 hL a4 k O H xs Q rs no q)
  · obtain ⟨v, rfl, r⟩ := rs.one
    rw [sortD_one (by omega)] at k
    exact .inr ⟨O, v, ds, rfl, r, by omega, fun l ys hl h => q _ _ _ (same_upd_new hl) (.lst (.inl (hid_at (no l hl))) (h.mono (rp_upd (K := K) hl))) k⟩
section
variable {c : Ctx} {ρ : List SD} {n : Nat} {tk : TE} {Φ : Nat → D → Prop}
/-- x[i] of an own list -/
theorem we_oix {i : Nat} {es : List D} (h0 : ρ[i]? = some (.own es)) (h : WE c tk ρ n fun n1 kd => ∃ (k : Nat) (d : D), kd = .int (k : Int) ∧ es[k]? = some d ∧ Φ n1 d) : WE c (tOp (rIx c.K) (tVar i) tk) ρ n Φ := fun P L σ H Q E q => by
  obtain ⟨m, ys, b1, b2, b3, b4⟩ := E.own_at h0
  refine ⟨.ref m, b1, ?_⟩
  refine h P L σ H _ E fun kv kd n1 H1 s1 j1 r1 ⟨k, d, e1, e2, kk⟩ => ?_
  subst e1
  cases r1
  have E1 := E.step s1 j1
  obtain ⟨m', ys', c1, c2, c3, c4⟩ := E1.own_at h0
  rw [b1] at c1
  cases c1
  obtain ⟨y, y1, y2⟩ := c3.get' e2
  exact .inl ⟨m, ys', (k : Int), y, rfl, rfl, .inl (.inl c2), atIN y1, q y d n1 H1 s1 j1 y2 kk⟩
end
end L3
/-! L7e: a def called with a second bag and more. -/
namespace L3
open PySem L2
section
variable {c : Ctx} {ρ : List SD} {n i : Nat} {Φ : Nat → D → Prop} {b q : Addr} {S : L3.Spec} {XE XE' : XK} {as : TA}
theorem we_bag2A (hb : c.bag = some (b, q)) (hi : ρ[i]? = some (.val (.adr b))) (h : ∀ b2 q2, WA { c with O := b2 :: q2 :: c.O } as ρ n fun n1 ds => S (some (b2, q2)) 0 (.adr b2 :: ds) fun _ d => ∃ k, d = .bl k ∧ Φ n1 (.bl k)) :
    WE c (tCall (spD c.K S) [] XE (tCons (tCall spNewBag [] XE' (tCons (tVar i) tNil)) as)) ρ n Φ := fun P L σ H Q E q0 => by
  obtain ⟨Ls, sl, sb⟩ := E.slots
  obtain ⟨v, hv, rv⟩ := sl.get hi
  cases rv
  refine ⟨_, hv, b, q, n, rfl, E.bag b q hb, fun b2 q2 H1 s1 nb nq ne B2 => ?_⟩
  have bO := E.bO b q hb
  have inH : ∀ o ∈ c.O, o ≠ b2 ∧ o ≠ q2 := fun o ho => ⟨fun z => E.al o ho (z ▸ nb), fun z => E.al o ho (z ▸ nq)⟩
  have inL : ∀ l ∈ L, l ≠ b2 ∧ l ≠ q2 := fun l hl => by
    obtain ⟨u, hu⟩ := E.lst l hl
    exact ⟨(fun z => by rw [z, nb] at hu; cases hu), (fun z => by rw [z, nq] at hu; cases hu)⟩
  have sH : Same (hid (L ++ c.O) H) (hid (L ++ b2 :: q2 :: c.O) H1) := fun a o e => by
    obtain ⟨e1, e2⟩ := hid_some.mp e
    refine hid_some.mpr ⟨fun z => ?_, s1 a o e2⟩
    rcases List.mem_append.mp z with z | z
    · exact e1 (List.mem_append_left _ z)
    · rcases List.mem_cons.mp z with z | z
      · rw [z, nb] at e2; cases e2
      · rcases List.mem_cons.mp z with z | z
        · rw [z, nq] at e2; cases e2
        · exact e1 (List.mem_append_right _ z)
  obtain ⟨sB, jB⟩ := E.same s1
  have E1 := E.step sB jB
  obtain ⟨t, r, cs, h1, h2, hrest⟩ := B2
  have B2' : BagOk b2 q2 0 H1 := ⟨t, r, cs, h1, h2, hrest⟩
  have Ec : Env { c with O := b2 :: q2 :: c.O } P L n H1 σ ρ :=
    { nd := E.nd,
      fresh := fun l hl => ⟨(E.fresh l hl).1, fun z => by
        rcases List.mem_cons.mp z with z | z
        · exact (inL l hl).1 z
        · rcases List.mem_cons.mp z with z | z
          · exact (inL l hl).2 z
          · exact (E.fresh l hl).2 z⟩,
      slots := ⟨Ls, sl.move (fun l hl => by
        obtain ⟨u, hu⟩ := E.lst l (sb.subset hl)
        rw [hu]; exact s1 l u hu) sH, sb⟩,
      lst := E1.lst, bag := jB, base := E1.base, pers := E.pers.trans sH,
      bO := fun b' q' e => ⟨List.mem_cons_of_mem _ (List.mem_cons_of_mem _ (E.bO b' q' e).1), List.mem_cons_of_mem _ (List.mem_cons_of_mem _ (E.bO b' q' e).2.1), (E.bO b' q' e).2.2⟩,
      al := fun o ho => by
        rcases List.mem_cons.mp ho with z | z
        · rw [z, h1]; exact fun z => nomatch z
        · rcases List.mem_cons.mp z with z | z
          · rw [z, h2]; exact fun z => nomatch z
          · exact E1.al o z }
  refine h b2 q2 P L σ H1 _ Ec fun vs ds n1 H2 s2 j2 r2 kk => ?_
  have nB : ∀ a, a = b2 ∨ a = q2 → a ∉ c.B := fun a ha z => by
    have := inH a (E.inO z)
    rcases ha with z | z
    · exact this.1 z
    · exact this.2 z
  have old : ∀ a o, a = b2 ∨ a = q2 → H1 a = some o → H2 a = some o := fun a o ha h => (hid_some.mp (s2 a o (hid_some.mpr ⟨nB a ha, h⟩))).2
  have B3 : BagOk b2 q2 0 H2 := B2'.move (fun o h => old b2 o (.inl rfl) h) fun o h => old q2 o (.inr rfl) h
  refine ⟨[b2, q2], some (b2, q2), 0, .adr b2 :: ds, _, fun b' q' e => ?_, fun o ho => ?_, ?_, kk, fun v d n' H' s j r ⟨k, e, kk⟩ => ?_⟩
  · cases e
    exact ⟨B3, List.mem_cons_self, List.mem_cons_of_mem _ List.mem_cons_self, ne⟩
  · rcases List.mem_cons.mp ho with z | z
    · rw [z, old b2 _ (.inl rfl) h1]; exact fun z => nomatch z
    · rw [List.mem_singleton.mp z, old q2 _ (.inr rfl) h2]; exact fun z => nomatch z
  · have e0 : vs ++ [] = vs := List.append_nil vs
    show RpAll c.K (hid [b2, q2] H2) (.ref b2 :: (vs ++ [])) (.adr b2 :: ds)
    rw [e0]
    refine .cons (.adr b2) (RpAll.mono (same_hid_sub fun a ha => ?_) r2)
    rcases List.mem_cons.mp ha with z | z
    · rw [z]; exact List.mem_append_right _ List.mem_cons_self
    · rw [List.mem_singleton.mp z]; exact List.mem_append_right _ (List.mem_cons_of_mem _ List.mem_cons_self)
  · subst e
    cases r
    have nx : ∀ a o, a ≠ b2 → H2 a = some o → H' a = some o := fun a o ne2 ha => (hid_some.mp (s a o (hid_some.mpr ⟨fun z => ne2 (List.mem_singleton.mp z), ha⟩))).2
    refine q0 _ _ n1 H' (fun a o ha => ?_) (fun b' q' e => ?_) (.bl k) kk
    · obtain ⟨a1, a2⟩ := hid_some.mp ha
      have a3 := (hid_some.mp (s2 a o (sB a o ha))).2
      exact hid_some.mpr ⟨a1, nx a o (fun z => by rw [z, nb] at a2; cases a2) a3⟩
    · have := E.bO b' q' e
      exact (j2 b' q' e).move (fun o h => nx b' o (inH b' this.1).1 h) fun o h => nx q' o (inH q' this.2.1).1 h
end
end L3
/-! L8a: statements that make lambdas: the tables of code objects grow. -/
namespace L3
open PySem L2
/-- no table is told -/
def NoT (H : Hp) : Prop := ∀ a ps, H a ≠ some (.tbl ps)
def notTB : HO → Bool
  | .tbl _ => false
  | _ => true
theorem notT {u : HO} (h : notTB u = true) : ∀ ps, u ≠ .tbl ps := fun ps z => by rw [z] at h; cases h
section
variable {K : PySem.W.Frag} {H H' : Hp}
theorem rdN {a : Addr} {u : HO} (e : LamX.ExtN H H') (nt : ∀ ps, u ≠ .tbl ps) (h : Rd H a u) : Rd H' a u := by
  rcases h with h | ⟨o, h⟩
  · exact .inl (e a _ h nt)
  · exact .inr ⟨o, e a _ h fun ps z => nomatch z⟩
theorem sqtN {a : Addr} {xs : List V} (e : LamX.ExtN H H') (h : SqT K H a xs) : SqT K H' a xs := by
  rcases h with h | h
  · exact .inl (rdN e (fun ps z => nomatch z) h)
  · exact .inr h
mutual
theorem Rp.ext (e : LamX.ExtN H H') : ∀ {v : V} {d : D}, Rp K H v d → Rp K H' v d
  | _, _, .non => .non
  | _, _, .bl b => .bl b
  | _, _, .int i => .int i
  | _, _, .str x => .str x
  | _, _, .lst h r => .lst (rdN e (notT rfl) h) (RpAll.ext e r)
  | _, _, .tup h r => .tup (sqtN e h) (RpAll.ext e r)
  | _, _, .obj h r => .obj (e _ _ h (notT rfl)) (RpFs.ext e r)
  | _, _, .adr a => .adr a
  | _, _, .ty n => .ty n
  | _, _, .er h1 h2 r => .er (rdN e (notT rfl) h1) (rdN e (notT rfl) h2) (RpFs.ext e r)
  | _, _, .dct h r => .dct (rdN e (notT rfl) h) (RpKs.ext e r)
  | _, _, .dcn h s r => .dcn (rdN e (notT rfl) h) s (RpNs.ext e r)
theorem RpAll.ext (e : LamX.ExtN H H') : ∀ {vs : List V} {ds : List D}, RpAll K H vs ds → RpAll K H' vs ds
  | _, _, .nil => .nil
  | _, _, .cons h r => .cons (Rp.ext e h) (RpAll.ext e r)
theorem RpFs.ext (e : LamX.ExtN H H') : ∀ {vs : List (Str × V)} {ds : List (Str × D)}, RpFs K H vs ds → RpFs K H' vs ds
  | _, _, .nil => .nil
  | _, _, .cons h r => .cons (Rp.ext e h) (RpFs.ext e r)
theorem RpKs.ext (e : LamX.ExtN H H') : ∀ {vs : List (L2.Key × V)} {ds : List (L2.Key × D)}, RpKs K H vs ds → RpKs K H' vs ds
  | _, _, .nil => .nil
  | _, _, .cons h r => .cons (Rp.ext e h) (RpKs.ext e r)
theorem RpNs.ext (e : LamX.ExtN H H') : ∀ {vs : List (NestedKey × Addr × Value)} {ds : List (D × D)}, RpNs K H vs ds → RpNs K H' vs ds
  | _, _, .nil => .nil
  | _, _, .cons a b h w v r => .cons a b (Rp.ext e h) w (Rp.ext e v) (RpNs.ext e r)
end
end
theorem extN_hid {H H' : Hp} {O : List Addr} (e : LamX.ExtN H H') : LamX.ExtN (hid O H) (hid O H') := fun a o h nt => by
  obtain ⟨h1, h2⟩ := hid_some.mp h
  exact hid_some.mpr ⟨h1, e a o h2 nt⟩
theorem extN_sub {H : Hp} {O O' : List Addr} (h : ∀ a, a ∈ O' → a ∈ O) : LamX.ExtN (hid O H) (hid O' H) := fun a o q _ => same_hid_sub h a o q
/-- a list or a dict -/
def plainCell (o : HO) : Prop := (∃ xs, o = .lst xs) ∨ ∃ xs, o = .dK xs
theorem plainCell.nt {o : HO} (h : plainCell o) : ∀ ps, o ≠ .tbl ps := fun ps z => by
  rcases h with ⟨xs, e⟩ | ⟨xs, e⟩ <;> (rw [e] at z; cases z)
/-- slots that may stand while a lambda is made -/
def okSlot : SD → Bool
  | .un => true
  | .val _ => true
  | .own _ => true
  | .dk _ => true
  | _ => false
theorem Slots.ext {pr : Program} {wd : World} {K : PySem.W.Frag} {O : List Addr} {H H' : Hp} (e : LamX.ExtN H H') : ∀ {σ : List (Option V)} {ρ : List SD} {L : List Addr}, Slots pr wd K O H σ ρ L → ρ.all okSlot = true → Slots pr wd K O H' σ ρ L ∧ ∀ l ∈ L, ∃ o, H l = some o ∧ plainCell o ∧ H' l = some o
  | _, _, _, .nil, _ => ⟨.nil, fun l h => nomatch h⟩
  | _, _, _, .un s, n => by
    obtain ⟨a, b⟩ := Slots.ext e s (by simpa [okSlot] using n)
    exact ⟨.un a, b⟩
  | _, _, _, .val h s, n => by
    obtain ⟨a, b⟩ := Slots.ext e s (by simpa [okSlot] using n)
    exact ⟨.val (h.ext (extN_hid e)) a, b⟩
  | _, _, _, .own (l := l) (xs := xs) h r s, n => by
    obtain ⟨a, b⟩ := Slots.ext e s (by simpa [okSlot] using n)
    have hl := e l _ h fun ps z => nomatch z
    refine ⟨.own hl (r.ext (extN_hid e)) a, fun x hx => ?_⟩
    rcases List.mem_cons.mp hx with q | q
    · rw [q]; exact ⟨_, h, .inl ⟨xs, rfl⟩, hl⟩
    · exact b x q
  | _, _, _, .dic _ _, n => by simp [okSlot] at n
  | _, _, _, .dk (l := l) ⟨xs, h, r⟩ s, n => by
    obtain ⟨a, b⟩ := Slots.ext e s (by simpa [okSlot] using n)
    have hl := e l _ h fun ps z => nomatch z
    refine ⟨.dk ⟨xs, hl, r.ext (extN_hid e)⟩ a, fun x hx => ?_⟩
    rcases List.mem_cons.mp hx with q | q
    · rw [q]; exact ⟨_, h, .inr ⟨xs, rfl⟩, hl⟩
    · exact b x q
  | _, _, _, .tw _ _, n => by simp [okSlot] at n
  | _, _, _, .ot _ _ _, n => by simp [okSlot] at n
/-- where lambdas may be made: nothing is told of tables, callers own lists and dicts alone -/
structure LamCx (c : Ctx) : Prop where
  h0 : NoT c.H0
  o : ∀ o ∈ c.O, ∃ u, c.H0 o = some u ∧ plainCell u
section
variable {c : Ctx} {ρ : List SD} {n : Nat} {P : Hp} {L : List Addr} {H : Hp} {σ : List (Option V)}
theorem BagOk.cells {b q : Addr} {n : Nat} {H : Hp} (h : BagOk b q n H) : (∃ xs, H b = some (.lst xs)) ∧ ∃ xs, H q = some (.lst xs) := by
  obtain ⟨t, r, cs, h1, h2, _⟩ := h
  exact ⟨⟨_, h1⟩, ⟨_, h2⟩⟩
/-- what callers own is a list or a dict still -/
theorem Env.plainO (E : Env c P L n H σ ρ) (X : LamCx c) : ∀ o ∈ c.O, ∃ u, H o = some u ∧ plainCell u := fun o ho => by
  by_cases hB : o ∈ c.B
  · have : ∃ q, c.bag = some (o, q) := mem_B.mp hB
    obtain ⟨q, hq⟩ := this
    obtain ⟨⟨xs, h⟩, _⟩ := (E.bag o q hq).cells
    exact ⟨_, h, .inl ⟨xs, rfl⟩⟩
  · obtain ⟨u, h1, h2⟩ := X.o o ho
    exact ⟨u, (hid_some.mp (E.base o u (hid_some.mpr ⟨hB, h1⟩))).2, h2⟩
/-- the heap grows, but for the tables -/
theorem Env.ext (E : Env c P L n H σ ρ) (X : LamCx c) (hP : NoT P) (no : ρ.all okSlot = true) {H1 : Hp} (e : LamX.ExtN H H1) : ∃ L', Env c P L' n H1 σ ρ ∧ (∀ a ∈ L' ++ c.O, ∃ u, H1 a = some u ∧ plainCell u) ∧ L'.Sublist L := by
  obtain ⟨Ls, sl, sb⟩ := E.slots
  obtain ⟨s1, s2⟩ := sl.ext e no
  have sub : ∀ a, a ∈ Ls ++ c.O → a ∈ L ++ c.O := fun a q => by
    rcases List.mem_append.mp q with q | q
    · exact List.mem_append_left _ (sb.subset q)
    · exact List.mem_append_right _ q
  have pO := E.plainO X
  have pO1 : ∀ o ∈ c.O, ∃ u, H1 o = some u ∧ plainCell u := fun o ho => by
    obtain ⟨u, h1, h2⟩ := pO o ho
    exact ⟨u, e o u h1 h2.nt, h2⟩
  have lst1 : ∀ l ∈ Ls, ∃ o, H1 l = some o := fun l hl => by
    obtain ⟨o, _, _, h⟩ := s2 l hl
    exact ⟨o, h⟩
  have bag1 : c.J n H1 := fun b q hb => by
    obtain ⟨⟨xs, h1⟩, ⟨ys, h2⟩⟩ := (E.bag b q hb).cells
    refine (E.bag b q hb).move (fun o h => e b o h ?_) fun o h => e q o h ?_
    · rw [h1] at h; cases h; exact notT rfl
    · rw [h2] at h; cases h; exact notT rfl
  have base1 : Same (hid c.B c.H0) (hid c.B H1) := fun a o h => by
    have nt : ∀ ps, o ≠ .tbl ps := fun ps z => X.h0 a ps (by rw [← z]; exact (hid_some.mp h).2)
    obtain ⟨h1, h2⟩ := hid_some.mp (E.base a o h)
    exact hid_some.mpr ⟨h1, e a o h2 nt⟩
  have pers1 : Same P (hid (Ls ++ c.O) H1) := fun a o h => by
    have nt : ∀ ps, o ≠ .tbl ps := fun ps z => hP a ps (by rw [← z]; exact h)
    obtain ⟨h1, h2⟩ := hid_some.mp (E.pers a o h)
    exact hid_some.mpr ⟨fun q => h1 (sub a q), e a o h2 nt⟩
  have al1 : ∀ o ∈ c.O, H1 o ≠ none := fun o ho => by
    obtain ⟨u, h, _⟩ := pO1 o ho
    rw [h]; exact fun z => nomatch z
  refine ⟨Ls, { nd := sb.nodup E.nd, fresh := fun l hl => E.fresh l (sb.subset hl), slots := ⟨Ls, s1.move (fun _ _ => rfl) (same_hid_sub sub), List.Sublist.refl _⟩, lst := lst1, bag := bag1, base := base1, pers := pers1, bO := E.bO, al := al1 }, fun a ha => ?_, sb⟩
  rcases List.mem_append.mp ha with q | q
  · obtain ⟨o, _, h2, h3⟩ := s2 a q
    exact ⟨o, h3, h2⟩
  · exact pO1 a q
theorem tabs_hid {T : List (Addr × Str)} {O : List Addr} (h : LamX.Tabs T H) (hO : ∀ a ∈ O, ∃ u, H a = some u ∧ plainCell u) : LamX.Tabs T (hid O H) := fun p hp => by
  obtain ⟨ps, h1, h2, h3⟩ := h p hp
  have out : ∀ a u, H a = some u → (∀ v, plainCell v → u ≠ v) → a ∉ O := fun a u e ne q => by
    obtain ⟨v, hv, hp⟩ := hO a q
    rw [hv] at e
    exact ne v hp (Option.some.inj e).symm
  refine ⟨ps, by rw [hid_out (out _ _ h1 fun v hv z => hv.nt ps z.symm)]; exact h1, h2, fun pos cv hc => ?_⟩
  obtain ⟨c0, e1, e2⟩ := h3 pos cv hc
  refine ⟨c0, e1, ?_⟩
  rw [hid_out (out _ _ e2 fun v hv z => ?_)]
  · exact e2
  · unfold LamX.CodeO at z
    rcases hv with ⟨xs, e⟩ | ⟨xs, e⟩ <;> (rw [e] at z; cases z)
end
/-! ### judgements -/
def WEX (c : Ctx) (T : List (Addr × Str)) (te : TE) (ρ : List SD) (n : Nat) (Φ : Nat → D → Prop) : Prop :=
  ∀ P L σ H Q, NoT P → Env c P L n H σ ρ → LamX.Tabs T (hid (L ++ c.O) H) → (∀ v d n' H' L', Env c P L' n' H' σ ρ → LamX.Tabs T (hid (L' ++ c.O) H') → Rp c.K (hid (L' ++ c.O) H') v d → Φ n' d → Q v H') → te σ H Q
def WTX (c : Ctx) (T : List (Addr × Str)) (tt : TT) (ρ : List SD) (n : Nat) (Φ : Nat → Bool → Prop) : Prop :=
  ∀ P L σ H Q, NoT P → Env c P L n H σ ρ → LamX.Tabs T (hid (L ++ c.O) H) → (∀ b n' H' L', Env c P L' n' H' σ ρ → LamX.Tabs T (hid (L' ++ c.O) H') → Φ n' b → Q b H') → tt σ H Q
structure AccX (c : Ctx) (T : List (Addr × Str)) (P : Hp) (Ψ : Out) (Dn : Ends) : Prop where
  nx : ∀ L n H σ ρ, Env c P L n H σ ρ → LamX.Tabs T (hid (L ++ c.O) H) → Ψ.nx n ρ → Dn.nx σ H
  rt : ∀ v d n H, Same (hid c.B c.H0) (hid c.B H) → c.J n H → Rp c.K (hid c.O H) v d → Ψ.rt n d → Dn.rt v H
  bk : ∀ L n H σ ρ, Env c P L n H σ ρ → LamX.Tabs T (hid (L ++ c.O) H) → Ψ.bk n ρ → Dn.bk σ H
  ct : ∀ L n H σ ρ, Env c P L n H σ ρ → LamX.Tabs T (hid (L ++ c.O) H) → Ψ.ct n ρ → Dn.ct σ H
def WSX (c : Ctx) (T : List (Addr × Str)) (ts : TS) (ρ : List SD) (n : Nat) (Ψ : Out) : Prop :=
  ∀ P L σ H Dn, NoT P → Env c P L n H σ ρ → LamX.Tabs T (hid (L ++ c.O) H) → AccX c T P Ψ Dn → ts Dn σ H
section
variable {c : Ctx} {T : List (Addr × Str)} {ρ : List SD} {n i : Nat} {ta tb te : TE} {t u : TT} {Φ : Nat → D → Prop} {Ψ : Out} {ts us : TS}
theorem we_x (h : WE c te ρ n Φ) : WEX c T te ρ n Φ := fun P L σ H Q hP E tb q => h P L σ H Q E fun v d n' H' s j r k => q v d n' H' L (E.step s j) (tb.ext (E.sameLO s)) r k
theorem wt_x {Φ : Nat → Bool → Prop} (h : WT c t ρ n Φ) : WTX c T t ρ n Φ := fun P L σ H Q hP E tb q => h P L σ H Q E fun b n' H' s j k => q b n' H' L (E.step s j) (tb.ext (E.sameLO s)) k
theorem ws_x (h : WS c ts ρ n Ψ) : WSX c T ts ρ n Ψ := fun P L σ H Dn hP E tb A => h (hid (L ++ c.O) H) L σ H Dn E.pers'
  { nx := fun L' n' H' σ' ρ' E' k => A.nx L' n' H' σ' ρ' (E'.persOf E.pers) (tb.ext E'.pers) k, rt := A.rt,
    bk := fun L' n' H' σ' ρ' E' k => A.bk L' n' H' σ' ρ' (E'.persOf E.pers) (tb.ext E'.pers) k, ct := fun L' n' H' σ' ρ' E' k => A.ct L' n' H' σ' ρ' (E'.persOf E.pers) (tb.ext E'.pers) k }
theorem ws_seqX (h : WSX c T ts ρ n { Ψ with nx := fun n1 ρ1 => WSX c T us ρ1 n1 Ψ }) : WSX c T (tSeq ts us) ρ n Ψ := fun P L σ H Dn hP E tb A =>
  h P L σ H _ hP E tb { nx := fun L' n1 H1 σ1 ρ1 E1 t1 k => k P L' σ1 H1 Dn hP E1 t1 A, rt := A.rt, bk := A.bk, ct := A.ct }
theorem WSX.mono {Ψ' : Out} (h : WSX c T ts ρ n Ψ) (nx : ∀ n ρ, Ψ.nx n ρ → Ψ'.nx n ρ) (rt : ∀ n d, Ψ.rt n d → Ψ'.rt n d) (bk : ∀ n ρ, Ψ.bk n ρ → Ψ'.bk n ρ) (ct : ∀ n ρ, Ψ.ct n ρ → Ψ'.ct n ρ) : WSX c T ts ρ n Ψ' := fun P L σ H Dn hP E tb A =>
  h P L σ H Dn hP E tb { nx := fun L n H σ ρ E t k => A.nx L n H σ ρ E t (nx n ρ k), rt := fun v d n H s j r k => A.rt v d n H s j r (rt n d k), bk := fun L n H σ ρ E t k => A.bk L n H σ ρ E t (bk n ρ k), ct := fun L n H σ ρ E t k => A.ct L n H σ ρ E t (ct n ρ k) }
/-- a statement's promise said in between -/
theorem ws_cutX (Nx : Nat → List SD → Prop) (h : WSX c T ts ρ n { nx := Nx, rt := Ψ.rt }) (k : ∀ n1 ρ1, Nx n1 ρ1 → WSX c T us ρ1 n1 Ψ) : WSX c T (tSeq ts us) ρ n Ψ :=
  ws_seqX (h.mono (fun n1 ρ1 q => k n1 ρ1 q) (fun _ _ q => q) (fun _ _ q => q.elim) (fun _ _ q => q.elim))
theorem ws_ifX (h : WTX c T t ρ n fun n1 b => if b = true then WSX c T ts ρ n1 Ψ else WSX c T us ρ n1 Ψ) : WSX c T (tIfS t ts us) ρ n Ψ := fun P L σ H Dn hP E tb A => by
  refine h P L σ H _ hP E tb fun b n1 H1 L1 E1 t1 k => ?_
  cases b with
  | true =>
    rw [if_pos rfl] at k ⊢
    exact k P L1 σ H1 Dn hP E1 t1 A
  | false =>
    rw [if_neg Bool.false_ne_true] at k ⊢
    exact k P L1 σ H1 Dn hP E1 t1 A
theorem ws_retX (h : WEX c T te ρ n Ψ.rt) : WSX c T (tRet te) ρ n Ψ := fun P L σ H Dn hP E tb A =>
  h P L σ H _ hP E tb fun v d n1 H1 L1 E1 t1 r k => A.rt v d n1 H1 E1.base E1.bag (r.mono (same_hid_sub fun a ha => List.mem_append_right _ ha)) k
theorem ws_setX (h : WEX c T te ρ n fun n1 d => Ψ.nx n1 (ρ.set i (.val d))) : WSX c T (tAsg te (gName i)) ρ n Ψ := fun P L σ H Dn hP E tb A =>
  h P L σ H _ hP E tb fun v d n1 H1 L1 E1 t1 r k => A.nx L1 n1 H1 _ _ (E1.set i r) t1 k
theorem wt_testX {Φ : Nat → Bool → Prop} (h : WEX c T te ρ n fun n1 d => ∃ b, d = .bl b ∧ Φ n1 b) : WTX c T (tTest te) ρ n Φ := fun P L σ H Q hP E tb q => by
  refine h P L σ H _ hP E tb fun v d n1 H1 L1 E1 t1 r ⟨b, e, k⟩ => ?_
  subst e
  cases r
  exact ⟨b, rfl, q b n1 H1 L1 E1 t1 k⟩
theorem wt_notX {Φ : Nat → Bool → Prop} (h : WTX c T t ρ n fun n1 b => Φ n1 (!b)) : WTX c T (tNot t) ρ n Φ := fun P L σ H Q hP E tb q => h P L σ H _ hP E tb fun b n1 H1 L1 E1 t1 k => q (!b) n1 H1 L1 E1 t1 k
theorem wt_orX {Φ : Nat → Bool → Prop} (h : WTX c T t ρ n fun n1 b => if b = true then Φ n1 true else WTX c T u ρ n1 Φ) : WTX c T (tOr t u) ρ n Φ := fun P L σ H Q hP E tb q => by
  refine h P L σ H _ hP E tb fun b n1 H1 L1 E1 t1 k => ?_
  cases b with
  | true =>
    rw [if_pos rfl] at k
    exact q true n1 H1 L1 E1 t1 k
  | false =>
    rw [if_neg Bool.false_ne_true] at k
    show u σ H1 Q
    exact k P L1 σ H1 Q hP E1 t1 q
theorem wt_andX {Φ : Nat → Bool → Prop} (h : WTX c T t ρ n fun n1 b => if b = true then WTX c T u ρ n1 Φ else Φ n1 false) : WTX c T (tAnd t u) ρ n Φ := fun P L σ H Q hP E tb q => by
  refine h P L σ H _ hP E tb fun b n1 H1 L1 E1 t1 k => ?_
  cases b with
  | true =>
    rw [if_pos rfl] at k
    show u σ H1 Q
    exact k P L1 σ H1 Q hP E1 t1 q
  | false =>
    rw [if_neg Bool.false_ne_true] at k
    exact q false n1 H1 L1 E1 t1 k
/-- a lambda's value first, then one without -/
theorem we_opX {r : R2} (h : WEX c T ta ρ n fun n1 d => WE c tb ρ n1 fun n2 e => R2D c.K r d e (Φ n2)) : WEX c T (tOp r ta tb) ρ n Φ := fun P L σ H Q hP E tbs q => by
  refine h P L σ H _ hP E tbs fun x d n1 H1 L1 E1 t1 r1 h1 => ?_
  refine h1 P L1 σ H1 _ E1 fun y e n2 H2 s2 j2 r2 h2 => ?_
  have E2 := E1.step s2 j2
  refine h2 (L1 ++ c.O) H2 x y Q (r1.mono (E1.sameLO s2)) r2 E2.noO fun v f H' s r k => ?_
  have z := E2.same s
  exact q v f n2 H' L1 (E2.step z.1 z.2) (t1.ext fun a o e => same_hid_of s a o (E1.sameLO s2 a o e)) r k
end
end L3
/-! L8b: a lambda handed to a def: the def's promise, the call; the def `try: a() except X as e: ..`. -/
namespace L3
open PySem L2
/-- what is promised of the lambda's call at a count of draws: its value, its error -/
abbrev ActP := Nat → (Nat → D → Prop) → (Nat → Addr → List (Str × D) → Prop) → Prop
abbrev SpecL := Nat → ActP → (Nat → D → Prop) → Prop
/-- the lambda's call keeps its promises -/
def ActOk (K : PySem.W.Frag) (O : List Addr) (bag : Option (Addr × Addr)) (H : Hp) (A : ActP) (tl : XK → Hp → VK → Prop) : Prop := ∀ m ΦN Ξ, A m ΦN Ξ → ∀ H1 E Q1, Same (hid (bagB bag) H) (hid (bagB bag) H1) → (∀ b q, bag = some (b, q) → BagOk b q m H1) →
  (∀ v d n' H', Same (hid (bagB bag) H1) (hid (bagB bag) H') → (∀ b q, bag = some (b, q) → BagOk b q n' H') → Rp K (hid O H') v d → ΦN n' d → Q1 v H') →
  (∀ C dx fs ks n' H', Same (hid (bagB bag) H1) (hid (bagB bag) H') → (∀ b q, bag = some (b, q) → BagOk b q n' H') → H' dx = some (.xd fs) → dx ∉ O → RpFs K (hid O H') fs ks → Ξ n' C ks → E (.ref C) (some dx) H') → tl E H1 Q1
def TTd (K : PySem.W.Frag) (S : SpecL) : (XK → Hp → VK → Prop) → Hp → VK → Prop := fun tl H Q => ∃ (O : List Addr) (bag : Option (Addr × Addr)) (n : Nat) (A : ActP) (Φ : Nat → D → Prop),
  (∀ b q, bag = some (b, q) → BagOk b q n H ∧ b ∈ O ∧ q ∈ O ∧ q ≠ b) ∧ (∀ o ∈ O, H o ≠ none) ∧ S n A Φ ∧ ActOk K O bag H A tl ∧
  ∀ v d n' H', Same (hid (bagB bag) H) (hid (bagB bag) H') → (∀ b q, bag = some (b, q) → BagOk b q n' H') → Rp K (hid O H') v d → Φ n' d → Q v H'
/-- the lambda's body, told wherever one's own things are put aside -/
def LamP (c : Ctx) (t : XK → TE) (ρ : List SD) : ActP := fun m ΦN Ξ => ∀ O' H0' (E : XK), XA { c with O := O', H0 := H0' } (fun cls d _ H => E cls d H) (fun n' _ C ks => Ξ n' C ks) → WE { c with O := O', H0 := H0' } (t E) (ρ.map asd) m ΦN
section
variable {c : Ctx} {T : List (Addr × Str)} {ρ : List SD} {n : Nat} {Φ : Nat → D → Prop}
/-- x(lambda: ..) -/
theorem we_lamX {t : XK → TE} {S : SpecL} (X : LamCx c) (no : ρ.all okSlot = true) (h : S n (LamP c t ρ) Φ) : WEX c T (LamX.tLam T (TTd c.K S) t) ρ n Φ := fun P L σ H Q hP E tb q => by
  refine ⟨tb.ext same_hid, fun H1 e t1 => ?_⟩
  obtain ⟨L1, E1, pc, _⟩ := E.ext X hP no e
  have tb1 := tabs_hid t1 pc
  refine ⟨L1 ++ c.O, c.bag, n, _, Φ, fun b q hb => ⟨E1.bag b q hb, List.mem_append_right _ (E.bO b q hb).1, List.mem_append_right _ (E.bO b q hb).2.1, (E.bO b q hb).2.2⟩, E1.alLO, h, fun m ΦN Ξ hA H2 Ek Q1 s j qn qe => ?_, fun v d n' H' s j r k => ?_⟩
  · have E2 := E1.step s j
    refine hA (L1 ++ c.O) H2 Ek ?_ (fun _ => none) [] σ H2 Q1 E2.re (fun v d n' H' s' j' r' k' => qn v d n' H' s' j' r' k')
    intro P2 L2 n2 H3 σ2 ρ2 C dx fs ks E3 hx hn hf kk
    exact qe C dx fs ks n2 H3 E3.base E3.bag hx (fun z => hn (List.mem_append_right _ z)) (hf.mono (same_hid_sub fun a ha => List.mem_append_right _ ha)) kk
  · exact q v d n' H' L1 (E1.step s j) (tb1.ext (E1.sameLO s)) r k
end
/-! ### the def that calls it -/
/-- errors wished at rows of this length -/
def EL (W : WX) (len : Nat) : XK := fun cls d H' => ∀ σ : List (Option V), σ.length = len → W cls d σ H'
def WL (W : WX) (len : Nat) : WX := fun cls d σ H' => σ.length = len → W cls d σ H'
theorem takesL {X : Cx} {W : WX} {len : Nat} (hl : X.N.length = len) (t : Takes X W) : Takes X (WL W len) := fun u s' ⟨a, B, sI, pins, σ, H, cls, d, e, I, nb, up, sky, na, os, ag, w⟩ =>
  t u s' ⟨a, B, sI, pins, σ, H, cls, d, e, I, nb, up, sky, na, os, ag, w (I.len.trans hl)⟩
theorem el_wl (W : WX) (len : Nat) : ∀ cls d (σ' : L2.St) H', EL W len cls d H' → WL W len cls d σ' H' := fun _ _ σ' _ h e => h σ' e
/-- the reading of the call: where the lambda lies, its code, what it does -/
def tAct (f c' : Addr) (q : Str) (tl : XK → Hp → VK → Prop) (W : WX) (len : Nat) : TE := fun σ H Q => σ[0]? = some (some (.ref f)) ∧ H c' = some (LamX.CodeO c' q) ∧ tl (EL W len) H Q
theorem slots_any {pr : Program} {wd : World} {K : PySem.W.Frag} {O : List Addr} {H : Hp} : ∀ σ : List (Option V), Slots pr wd K O H σ (List.replicate σ.length .un) []
  | [] => .nil
  | _ :: σ => .un (slots_any σ)
section
variable {P : Program} {w : World} {K : PySem.W.Frag}
/-- try: a() except X as e: suite -/
theorem act_try {O : List Addr} {bag : Option (Addr × Addr)} {n i : Nat} {A : ActP} {Φ : Nat → D → Prop} {H : Hp} {Q : VK} {f c' : Addr} {q : Str} {tl : XK → Hp → VK → Prop} {N : List Str} {cl : Value} {ts : Addr → Value → Option Addr → TS} {Wout : WX} {rest : TS} {ΦN : Nat → D → Prop} {Ξ : Nat → Addr → List (Str × D) → Prop}
    (hb : ∀ b q, bag = some (b, q) → BagOk b q n H ∧ b ∈ O ∧ q ∈ O ∧ q ≠ b) (hO : ∀ o ∈ O, H o ≠ none) (act : ActOk K O bag H A tl) (hc : H c' = some (LamX.CodeO c' q)) (h0 : (L2.start N [V.ref f])[0]? = some (some (V.ref f)))
    (hA : A n ΦN Ξ)
    (hn : ∀ n' d, ΦN n' d → WS ⟨P, w, K, O, bag, H⟩ rest (rho N [.adr f]) n' { nx := fun n' _ => Φ n' .non, rt := Φ })
    (hx : ∀ n' C ks, Ξ n' C ks → PySem.W.exmOne K (.ref C) cl = some true ∧ ∀ H0' dx a, Held ⟨P, w, K, O, bag, H0'⟩ dx ks → WS ⟨P, w, K, O, bag, H0'⟩ (ts a (.ref C) (some dx)) ((List.replicate N.length SD.un).set i (.val (.adr a))) n' { nx := fun _ _ => False, rt := Φ })
    (q0 : ∀ v d n' H', Same (hid (bagB bag) H) (hid (bagB bag) H') → (∀ b q, bag = some (b, q) → BagOk b q n' H') → Rp K (hid O H') v d → Φ n' d → Q v H') :
    tSeq (tTry K cl i ts Wout (fun W => tDrop (tAct f c' q tl W N.length))) rest { nx := fun _ H' => Q .non H', rt := Q } (L2.start N [.ref f]) H := by
  have E0 : Env ⟨P, w, K, O, bag, H⟩ (fun _ => none) [] n H (L2.start N [.ref f]) (rho N [.adr f]) := env_start N hb hO (.cons (.adr f) .nil)
  refine ⟨h0, hc, act n ΦN Ξ hA H _ _ (Same.refl _) (fun b q e => (hb b q e).1) (fun v d n' H' s j r k => ?_) fun C dx fs ks n' H' s j hd hdo hf k => ?_⟩
  · refine hn n' d k (fun _ => none) [] _ H' _ (E0.step s j) ?_
    exact { nx := fun L n2 H2 σ2 ρ2 E2 k2 => q0 .non .non n2 H2 E2.base (fun b q e => E2.bag b q e) .non k2, rt := fun v d n2 H2 s2 j2 r2 k2 => q0 v d n2 H2 s2 j2 r2 k2, bk := fun _ _ _ _ _ _ k => k.elim, ct := fun _ _ _ _ _ _ k => k.elim }
  · intro σ hσ
    obtain ⟨he, hs⟩ := hx n' C ks k
    refine ⟨true, he, fun _ a ha => ?_, fun z => nomatch z⟩
    have al : ∀ o ∈ O, H' o ≠ none := (E0.step s j).al
    have E1 : Env ⟨P, w, K, O, bag, H'⟩ (fun _ => none) [] n' H' σ (List.replicate N.length .un) :=
      { nd := List.nodup_nil, fresh := (fun l hl => nomatch hl), slots := ⟨[], by rw [← hσ]; exact slots_any σ, List.Sublist.refl _⟩, lst := (fun l hl => nomatch hl), bag := j, base := Same.refl _, pers := (fun _ _ e => nomatch e), bO := fun b q e => (hb b q e).2, al := al }
    refine hs H' dx a ⟨⟨fs, hd, hf⟩, hdo⟩ (fun _ => none) [] _ H' _ (E1.set i (.adr a)) ?_
    exact { nx := fun _ _ _ _ _ _ k => k.elim, rt := fun v d n2 H2 s2 j2 r2 k2 => q0 v d n2 H2 (s.trans s2) j2 r2 k2, bk := fun _ _ _ _ _ _ k => k.elim, ct := fun _ _ _ _ _ _ k => k.elim }
end
end L3
/-! L8c: defs whose code object is known; lambdas in them; the end of a law whose own text makes lambdas. -/
namespace L3
open PySem L2 PyProof.Rows
/-- a def as it lies in the text, with its code object -/
structure FunC (K : PySem.W.Frag) (x qual : Str) (st : Stmt) (f : Addr) (fd : FuncData) (c : Addr) : Prop where
  ex : ∃ (oc : Value) (od : Option Addr) (kV doc pm : Value) (an : Option Addr) (ct : Value) (osl : Array (Option Value)),
    fd = PySem.W.fnOf x qual (defArgs st) (defBody st) (defScope st) .none kV doc pm an (.ref c) ct ∧ K.lookup f = some ⟨oc, od, .func fd, osl⟩ ∧ PySem.W.codeIn K (.ref c) qual = true
section
variable {P : Program} {w : World} {K : PySem.W.Frag} {mg : Str → Option Value} {base : Heap}
theorem FunC.ok {x qual : Str} {st : Stmt} {f c : Addr} {fd : FuncData} {N ps : List Str} {k : Nat} {sp : Sp} (F : FunC K x qual st f fd c) (S : FnScope N ps (defScope st)) (len : ∀ vs H Q E, sp vs H Q E → vs.length = ps.length)
    (hbody : ∀ (A : Around) (outer : List PySem.Env) (s : Shared) (H : Hp) (vs : List V) (Q : VK) (E : XK), Room k (A.deeper (PyProof.Rows.envOfC qual (defScope st) s.heap.objs.size f (.ref c))) → sp vs H Q E →
      ∃ t, PSs (cxOf CX0 P w K mg base N qual (defScope st) f (.ref c) A outer s H E).nox (defBody st) t ∧ t { nx := fun _ H' => Q .non H', rt := Q } (L2.start N vs) H) : FnOk P w K mg base CX0 (k + 1) f fd ps sp := by
  obtain ⟨oc, od, kV, doc, pm, an, ct, osl, rfl, lk, hcd⟩ := F.ex
  refine fn_of lk hcd S len fun A outer s H vs Q E room hs => ?_
  obtain ⟨t, h, q⟩ := hbody A outer s H vs Q E room hs
  exact ⟨t, h.nox, q⟩
/-- a def that gets a lambda, as its callers see it -/
structure Dl (K : PySem.W.Frag) (mg : Str → Option Value) (x a : Str) (st : Stmt) (g : Addr) : Prop where
  ex : ∃ (oc : Value) (od : Option Addr) (dV kV doc pm : Value) (an : Option Addr) (cdv ct : Value) (osl : Array (Option Value)),
    K.lookup g = some ⟨oc, od, .func (PySem.W.fnOf x x (defArgs st) (defBody st) (defScope st) dV kV doc pm an cdv ct), osl⟩ ∧ PySem.W.codeIn K cdv x = true ∧ L2.Binds K (PySem.W.fnOf x x (defArgs st) (defBody st) (defScope st) dV kV doc pm an cdv ct) [a] []
  m : mg x = some (.ref g)
  k : PySem.W.keepIn K (.ref g) = true
end
/-- x(lambda: ..) in a def whose code object and table are known -/
theorem pe_lam {X : Cx} {T : List (Addr × Str)} {TT : (XK → Hp → VK → Prop) → Hp → VK → Prop} {x a : Str} {st : Stmt} {g c P : Addr} {k : Nat} {Ng : List Str} {params : Arguments} {body : Expr} {scope : Scope} {t : XK → TE} {p lpos pos : Pos}
    (hg : Gl X x) (D : Dl X.K X.mg x a st g) (Sg : FnScope Ng [a] (defScope st)) (hNg : Ng[0]? = some a) (hva : Vis (defScope st) a)
    (hG : ∀ cdg, LamX.GivesTo X Ng x (defScope st) g cdg (defBody st) a (X.env.qual ++ "<lambda>") TT) (TB : LamX.TabB X.base X.mg c P) (hcode : X.env.code = .ref c) (hT : T = [(P, X.env.qual ++ "<lambda>")])
    (room : Room (k + 2) X.A) (L : LamX.LamS X.env.scope scope) (hdef : defaultsOf params X.env = ([], []))
    (hbind : ∀ (q : Str) (cl : List (Str × Addr)) (pm cv ctv : Value), bindArgs (PySem.W.kla_fn "<lambda>" q params body scope cl pm cv ctv) ⟨[], []⟩ = pure [])
    (hbody : ∀ (A : Around) (outer : List PySem.Env) (s : Shared) (H : Hp) (E : XK) (f c' : Addr), Room k (A.deeper (LamX.lamEnv X scope s.heap.objs.size f c')) → PE (LamX.lamCx X A outer s H E scope f c') body (t E))
    (hdb : (x == ("__debug__" : Str)) = false := by decide) (hd : (a == ("__debug__" : Str)) = false := by decide) (hcd : (a == ("__classdict__" : Str)) = false := by decide) :
    PE X (.Call (.Name x p) [.Lambda params body scope lpos] [] pos) (LamX.tLam T TT t) := by
  obtain ⟨oc, od, dV, kV, doc, pm, an, cdv, ct, osl, lk, hcg, hb⟩ := D.ex
  subst hT
  exact LamX.pe_lamcall hg D.m D.k lk hcg hb Sg hNg hva (hG cdv) TB hcode List.mem_cons_self (fun p hp _ => by rw [List.mem_singleton.mp hp]) room L hdef hbind hbody hdb hd hcd
/-- the law's promise, its table empty -/
def spLawT (K : PySem.W.Frag) (Pt : Addr) : Sp := fun vs H Q _ => ∃ (a : Addr) (ns : List Int), vs = [.ref a] ∧ SqL K H a (ns.map V.int) ∧ ns.length ≤ 63 ∧ H Pt = some (.tbl #[]) ∧ ∀ H', Q (.bl true) H'
theorem walk_T {l : PySem.W.OpenLaw} {n k : Nat} {q : Program} {loose : List Str} {XP : (Str → Option Value) → Heap → Prop} {YP : World → Heap → Prop} {d : DefRec} {K : Params → PySem.W.Frag} {x : Str}
    (hn : l.most = some n) (h63 : n ≤ 63) (hdf : d.params.defaults = []) (room : Room k PySem.callerA) (hY : ∀ (w : World) (h : Heap), YP w h → (K w.params).In h) (hrec : (recsOf q).find? (fun e => e.name == x) = some d)
    (F : ∀ (w : World) (mg : Str → Option Value) (fa : Addr) (h : Heap), (K w.params).In h → h.Ns mainGlobals mg → mg d.name = some (.ref fa) →
      ∃ (c Pt : Addr) (fd : FuncData), PySem.W.tabIn (K w.params) x = some (c, Pt) ∧ (K w.params).lookup Pt = none ∧ (∀ (s : Shared) (u : Value), BindsTo s fd ⟨[u], []⟩ [("script", u)]) ∧
        ∀ base : Heap, (K w.params).In base → base.Ns mainGlobals mg → LamX.TabB base mg c Pt → FnOk l.prog w (K w.params) mg base CX0 k fa fd ["script"] (spLawT (K w.params) Pt)) :
    PySem.W.WalkO q loose XP YP l.row.toRowW d [] (fun f vs => PySem.call f vs) := by
  apply Att.attach_callB hn hdf
  intro w s0 s1 mg mb fa ob pm cdv doc a vals nums gr yp o1 o2 o3 mgl obj intsa hle bits gens
  have KX := hY w _ yp
  obtain ⟨c, Pt, fd, ht, hno, hbnd, hF⟩ := F w mg fa _ KX gr.T.g mgl
  obtain ⟨hc, hP⟩ := PySem.W.tab_of gr.T KX hrec ht
  have one : ∀ {R : Addr × Addr → Prop}, R (c, Pt) → ∀ p ∈ [(c, Pt)], R p := fun h p hp => by rw [List.mem_singleton.mp hp]; exact h
  refine LamX.law_callTs (cs := [(c, Pt)]) (x := "script") (sp := spLawT (K w.params) Pt) KX gr.T.g gr.T.b gr.T.builtins gr.T.nolimit gens (one hP) (one hno) (one hc) gr.T.bmain obj intsa (Nat.le_trans hle (Nat.le_trans h63 (by decide))) room (fun base kb nb tb => hF base kb nb (tb _ List.mem_cons_self)) hbnd ?_ fun H e s' z => z
  exact fun H hH hS => ⟨a, nums, rfl, hS, Nat.le_trans hle h63, hH _ List.mem_cons_self, fun _ => rfl⟩
end L3
/-! L8d: super().__init__(x) in an own error over ValueError. -/
namespace L3
open PySem L2 PyProof.Rows PySem.F
section
variable {X : Cx} {pins : List (Addr × Obj)} {σ : L2.St} {H : Hp} {s : Shared} {C a : Addr}
/-- what the text says of the class and its __init__ -/
structure SupT (X : Cx) (C f : Addr) (me : Str) : Prop where
  ks : X.env.kindOf "super" = some .globalImplicit
  kc : X.env.kindOf "__class__" = some .free
  kl : X.env.kindOf me = some .local
  fu : X.env.func = some f
  fn : ∃ (of : Obj) (fd : FuncData) (ar : Arg), X.K.lookup f = some of ∧ of.data = .func fd ∧ (fd.params.posonlyargs ++ fd.params.args).head? = some ar ∧ ar.arg = me
  co : ∃ (cda : Addr) (oc : Obj) (vs : Array Value) (file : Str) (tf : Tok), X.env.code = .ref cda ∧ X.K.lookup cda = some oc ∧ oc.data = .fields vs ∧ vs[2]? = some (.str file tf) ∧ ((X.prog.main.file : Str) == file) = true
  top : (X.prog.main.scope.names.lookup ("super" : Str)).isSome = false
  sup : X.mg "super" = none
  cell : ∃ (cc D : Addr) (oc : Obj) (cd : ClassData), X.env.cells.lookup ("__class__" : Str) = some cc ∧ X.K.lookup cc = some oc ∧ oc.data = .cell (some (.ref D)) ∧ PySem.W.clsIn X.K D = some cd ∧ PySem.W.mroIn X.K C (.ref D) = some true ∧ PySem.W.ks_superIn X.K C D "__init__" = some (some (.builtin "ValueError.__init__"))
  vb : PySem.W.subIn X.K (.ref C) (.type "ValueError") = some true
  any : PySem.W.nsIn X.K cStatics "thirdparty.any" = some none
  N0 : X.N[0]? = some me
  nd : (me == ("__debug__" : Str)) = false
theorem cls_get {K : PySem.W.Frag} {h : Heap} (Kn : K.In h) {D : Addr} {cd : ClassData} (e : PySem.W.clsIn K D = some cd) : ∃ oD, h.get? D = some oD ∧ oD.data = .cls cd := by
  unfold PySem.W.clsIn at e
  split at e
  · rename_i c d cd' sl hlk
    cases e
    exact ⟨_, Kn _ _ hlk, rfl⟩
  · cases e
theorem super_obj {f : Addr} {me : Str} {body : List Stmt} {p0 p1 : Pos} {attr : Str} {whole : Sem Value} {Q : Value → Shared → Prop} {E : Value → Shared → Prop} (S : SupT X C f me) (I : Inv X pins σ H s) (he : H a = some (exo a C none)) (h0 : σ[0]? = some (some (.ref a))) (hat : (attr == ("__class__" : Str)) = false)
    (h : ∀ (so D : Addr) (h' : Heap), (∀ b o, s.heap.get? b = some o → h'.get? b = some o) → h'.get? so = some (PySem.W.ks_superObj D a C) → PySem.W.ks_superIn X.K C D "__init__" = some (some (.builtin "ValueError.__init__")) → Inv X pins σ H { s with heap := h' } → Q (.ref so) { s with heap := h' }) :
    _root_.PySem.wpAt (model X.prog X.w) X.A (.func body X.env) (attributeBase (.Call (.Name "super" p0) [] [] p1) attr X.env whole) Q E s := by
  obtain ⟨of, fd, ar, f1, f2, f3, f4⟩ := S.fn
  obtain ⟨cda, oc, vs, file, tf, c1, c2, c3, c4, c5⟩ := S.co
  obtain ⟨cc, D, ocl, cd, d1, d2, d3, d4, d5, d6⟩ := S.cell
  subst f4
  obtain ⟨oD, hD1, hD2⟩ := cls_get I.kIn d4
  obtain ⟨t1, hx⟩ := exo_at I.hok he
  obtain ⟨mb, hb1, hb2⟩ := I.mod.blt
  have gl : s.heap.Ns X.env.globals X.mg := by rw [I.ok.glob]; exact I.mod.glob.keeps I.bk
  have bl : s.heap.Ns X.env.builtins mb := by rw [I.ok.blt]; exact hb1.keeps I.bk
  have bs : mb "super" = some (.type "super") := (hb2 "super" (by decide +kernel)).trans (by decide +kernel)
  obtain ⟨m, hn, hl⟩ := I.loc
  have vis : Vis X.env.scope ar.arg := .inl S.kl
  obtain ⟨u, ru, lk⟩ := hl 0 ar.arg (.ref a) S.N0 h0 vis
  obtain rfl : u = Value.ref a := ru
  obtain ⟨hp, g, d, t, os⟩ := s
  refine ks_wpAt_super_base S.ks S.kc hat S.fu (I.kIn _ _ f1) f2 f3 c1 (I.kIn _ _ c2) c3 c4 c5 S.top ?_
  refine PySem.W.ks_loadName_global I.ok.kind S.ks (Calls.loadGlobal_builtin gl S.sup bl bs ⟨rfl, ?_⟩)
  refine wpAny_loadName_free I.ok.kind S.kc d1 ⟨_, I.kIn _ _ d2, d3⟩ ?_
  have self_ : ∀ {Q' : Value → Shared → Prop} {E'}, Q' (.ref a) ⟨hp, g, d, t, os⟩ → wpAny (model X.prog X.w) X.A (loadName X.env ar.arg) Q' E' ⟨hp, g, d, t, os⟩ := fun {Q' E'} q => by
    rcases lk with ⟨hk, hm⟩ | ⟨hk, _⟩
    · exact wpAny_loadName_local I.ok.kind hk hn hm q
    · have := S.kl
      rcases hk with hk | hk <;> (rw [show X.env.kindOf ar.arg = _ from hk] at this; cases this)
  refine self_ ?_
  refine ks_wpAny_isType_cls hD1 hD2 ⟨rfl, ?_⟩
  refine ks_wpAny_call_super hD1 hD2 hx rfl (fun c z => by cases z) (PySem.W.looks_mroIn I.kIn d5) (fun h' e k => ?_)
  exact h _ D h' k e d6 (I.kept k)
end
end L3
/-! L8e: the bound ValueError.__init__ of a super object, made and called. -/
namespace L3
open PySem L2 PyProof.Rows PySem.F
section
variable {X : Cx} {pins : List (Addr × Obj)} {σ : L2.St} {H : Hp} {s : Shared} {C a : Addr}
/-- super().__init__: the wrapper over ValueError's -/
theorem wrap_get {f so D : Addr} {me : Str} {pl : Sem Bool} {Q : Value × List Value → Shared → Prop} {E : Value → Shared → Prop} (S : SupT X C f me) (I : Inv X pins σ H s) (he : H a = some (exo a C none))
    (hso : s.heap.get? so = some (PySem.W.ks_superObj D a C)) (hm : PySem.W.ks_superIn X.K C D "__init__" = some (some (.builtin "ValueError.__init__")))
    (h : ∀ (u : Addr) s', s'.heap.get? u = some (PySem.W.kxs_mw "ValueError.__init__" a) → Inv X ((u, PySem.W.kxs_mw "ValueError.__init__" a) :: pins) σ H s' → Q (.ref u, []) s') :
    wpAny (model X.prog X.w) X.A (getMethod (.ref so) "__init__" pl) Q E s := by
  obtain ⟨t1, ho⟩ := exo_at I.hok he
  have IA : PySem.W.InstAt s.heap a _ C none := ⟨ho, rfl, rfl, trivial⟩
  have hI : PySem.W.Looks (model X.prog X.w) s.heap (isInstance (.ref a) (.type "ValueError")) true := IA.type.andThen (PySem.W.looks_subIn I.kIn S.vb)
  cases hc : PySem.W.clsIn X.K C with
  | none =>
    unfold PySem.W.ks_superIn at hm
    rw [hc] at hm
    cases hm
  | some cd =>
    have hne : a ≠ C := PySem.W.ks_ne I.kIn IA hc
    unfold PySem.W.ks_superIn at hm
    rw [hc] at hm
    have KI := I.kIn
    have J := fun (h' : Heap) (t' : Nat) (u : Addr) k hl ho hc => ClX.pin_new (o := PySem.W.kxs_mw "ValueError.__init__" a) (h' := h') (t' := t') (a := u) I k hl ho hc
    obtain ⟨hp, g, d, t, os⟩ := s
    refine PySem.W.kxs_getMethod PySem.W.kxs_ValueError hso (PySem.W.looks_opaque KI S.any) (l₀ := cd.mro) ?_ rfl KI hm hI hne (by decide) ?_
    · exact fun A' Q' E' s' k q => wpAny_bind ((PySem.W.looks_clsIn KI hc) A' _ E' s' k (wpAny_pure q))
    · exact h _ _ (Heap.get?_push_at rfl rfl) (J _ _ _ (fun b o e => Heap.get?_push_of_some _ e) (Nat.le_refl _) (Heap.get?_push_at rfl rfl) fun v z => by cases z)
/-- the wrapper called: nothing of it is told -/
theorem wrap_call {u : Addr} {us : List Value} {Q : Value → Shared → Prop} {E : Value → Shared → Prop} (T : OexC X.K C) (I : Inv X pins σ H s) (he : H a = some (exo a C none)) (hu : s.heap.get? u = some (PySem.W.kxs_mw "ValueError.__init__" a)) (hl : us.length ≤ sizeLine)
    (h : ∀ s', Inv X pins σ H s' → Q .none s') : wpAny (model X.prog X.w) X.A (call (.ref u) us) Q E s := by
  obtain ⟨nm, q, N, bs, bm, sn, sub, ab, col, dd, k0, k1, k2, k3, k5, hC, hbm⟩ := T.cls
  obtain ⟨t1, ho⟩ := exo_at I.hok he
  have hC' := I.kIn _ _ hC
  have J := fun (h' : Heap) (t' : Nat) k hx hn => Inv.write (h' := h') (t' := t') (x := a) (e := a) (o := exo a C none) I (by rw [he]; exact True.intro) (.inl rfl) k hx hn
  obtain ⟨hp, g, d, t, os⟩ := s
  have fin : ∀ (h' : Heap), (∀ b o, b ≠ a → hp.get? b = some o → h'.get? b = some o) → h'.get? a = some (PySem.W.excObj C hp.objs.size none .none) → h'.get? hp.objs.size = some (PySem.W.excTup us) → Q .none ⟨h', g, d, t, os⟩ := fun h' k hx _ => by
    have J1 := J h' t k ⟨_, hx⟩ (exo_ok hx)
    have eu : upd H a (exo a C none) = H := by
      funext b
      by_cases hb : b = a
      · rw [hb, upd_same, he]
      · rw [upd_ne hb]
    rw [eu] at J1
    exact h _ J1
  have FB := PySem.F.excBase_ValueError
  refine wpAny_call (codeAny_of_tree ?_)
  show wpAny _ X.A.in1 (callAny (.ref u) ⟨us, []⟩) _ _ _
  unfold callAny
  refine wpAny_bind (wpAny_load hu ?_)
  refine PySem.W.KFB.if_so rfl ?_
  refine wpAny_bind (PySem.W.check_bound_init FB.toExcCallFacts hC' ho rfl ?_)
  refine wpAny_bind (wpAny_pure (wpAny_pure ⟨plainId_quiet FB.init.plain _, codeAny_builtin FB.initEntry ?_⟩))
  exact PySem.W.exc_init_tree (cls := .ref C) (t0 := t1) (dv := none) (c2 := .none) (c3 := .none) (b4 := .bool false) ho hl fin
end
end L3
/-! L8f: the statement super().__init__(e, ..). -/
namespace L3
open PySem L2 PyProof.Rows PySem.F
section
variable {X : Cx} {pins : List (Addr × Obj)} {σ : L2.St} {H : Hp} {s : Shared} {C a : Addr}
theorem sup_st {f : Addr} {me : Str} {body : List Stmt} {p0 p1 p2 p3 p4 : Pos} {e : Expr} {es : List Expr} {ta : TA} {R : Hp → Prop} {pl : Sem Bool} {Q : Flow → Shared → Prop} (S : SupT X C f me) (T : OexC X.K C) (I : Inv X pins σ H s) (he : H a = some (exo a C none)) (h0 : σ[0]? = some (some (.ref a)))
    (ha : PA X (e :: es) ta) (hq : ta σ H fun vs H1 => vs.length ≤ 1000 ∧ H1 a = some (exo a C none) ∧ R H1) (k : ∀ s' H1, Inv X pins σ H1 s' → R H1 → Q .next s')
    (hc : eval (.Call (.Attribute (.Call (.Name "super" p0) [] [] p1) "__init__" p2) (e :: es) [] p3) X.env = (do
      let ov ← attributeBase (.Call (.Name "super" p0) [] [] p1) "__init__" X.env (eval (.Call (.Name "super" p0) [] [] p1) X.env)
      standAt p2.atName
      let (g, first) ← holding [ov] (getMethod ov "__init__" pl)
      callWith p3 g first (backTo p3 (starEach (e :: es) X.env)) []) := by rfl)
    (hs : swapsWith (.Call (.Attribute (.Call (.Name "super" p0) [] [] p1) "__init__" p2) (e :: es) [] p3) none p4.line X.env = pure false := by rfl) (hi : interactive X.env = false := by rfl)
    (h1 : starEach (e :: es) X.env = (false, eval e X.env) :: starEach es X.env := by rfl) (h2 : (backTo p3 (starEach es X.env)).any (·.1) = false := by rfl) :
    _root_.PySem.wpAt (model X.prog X.w) X.A (.func body X.env) (exec (.Expr (.Call (.Attribute (.Call (.Name "super" p0) [] [] p1) "__init__" p2) (e :: es) [] p3) p4) X.env) Q X.xe s := by
  refine ks_wpAt_Expr_any ?_ hi hs
  refine ks_wpAt_MethodCall (super_obj S I he h0 (by decide) fun so D h' kp hso hm I1 => ?_) hc
  refine wrap_get S I1 he hso hm fun u s2 hu I3 => ?_
  refine PySem.W.kxs_callWith (i := "ValueError.__init__") (x := a) (by rw [h1]; show (false || (backTo p3 (starEach es X.env)).any (·.1)) = false; rw [h2]; rfl) ?_
  have hr := ha.run p3 _ _ σ H _ I3 hq
  rw [h1] at hr ⊢
  refine PySem.Calls.evalArgs_plain (thn hr fun us s4 ⟨vs, H1, I4, r4, hl, e4, q⟩ => ?_)
  have hu4 := ClX.pin_at I4
  refine ⟨hu4, ?_⟩
  have hlen : us.length ≤ sizeLine := by
    rw [← Paired.length r4, sizeLine_eq]
    omega
  exact wrap_call T (ClX.unpin I4) e4 hu4 hlen fun s5 J => k s5 H1 J q
end
end L3
/-! L8g: an own error's __init__ that says super().__init__(e, ..) first, as callers see it. -/
namespace L3
open PySem L2 PyProof.Rows PySem.F NdefX
section
variable {CX : CXT} {P : Program} {w : World} {K : PySem.W.Frag} {mg : Str → Option Value} {base : Heap} {k : Nat} {f C c cc : Addr} {name qual me : Str} {params : Arguments} {rest : List Stmt} {scope : Scope} {dV kV doc pm ct oc : Value} {an od : Option Addr}
    {osl : Array (Option Value)} {N ps : List Str} {sp : Sp}
abbrev supF (name qual : Str) (params : Arguments) (body : List Stmt) (scope : Scope) (c cc : Addr) : NF := ⟨name, qual, params, body, scope, [("__class__", cc)], c⟩
/-- the rule -/
theorem sup_fn {body : List Stmt} {p0 p1 p2 p3 p4 : Pos} {e : Expr} {es : List Expr} (lk : K.lookup f = some ⟨oc, od, .func (PySem.W.ksFn name qual params body scope dV kV doc pm an (.ref c) ct cc), osl⟩) (hb : body = .Expr (.Call (.Attribute (.Call (.Name "super" p0) [] [] p1) "__init__" p2) (e :: es) [] p3) p4 :: rest)
    (hcd : PySem.W.codeIn K (.ref c) qual = true) (S : NScope N ps ["__class__"] scope) (len : ∀ vs H Q E, sp vs H Q E → vs.length = ps.length) (T : OexC K C)
    (hS : ∀ (A : Around) (outer : List PySem.Env) (s : Shared) (H : Hp) (E : XK), SupT (ncx CX P w K mg base N (supF name qual params body scope c cc) f A outer s H E) C f me)
    (hbody : ∀ (A : Around) (outer : List PySem.Env) (s : Shared) (H : Hp) (vs : List V) (Q : VK) (E : XK), Room k (A.deeper (envF (supF name qual params body scope c cc) f s.heap.objs.size)) → sp vs H Q E →
      ∃ (a : Addr) (ys : List V) (ta : TA) (t : TS), vs = .ref a :: ys ∧ H a = some (exo a C none) ∧ PA (ncx CX P w K mg base N (supF name qual params body scope c cc) f A outer s H E) (e :: es) ta ∧ PSs (ncx CX P w K mg base N (supF name qual params body scope c cc) f A outer s H E) rest t ∧
        ta (startF N vs [none]) H fun us H1 => us.length ≤ 1000 ∧ H1 a = some (exo a C none) ∧ t { nx := fun _ H' => Q .non H', rt := Q } (startF N vs [none]) H1)
    (hc : ∀ (A : Around) (outer : List PySem.Env) (s : Shared) (H : Hp) (E : XK), ∃ pl : Sem Bool, eval (.Call (.Attribute (.Call (.Name "super" p0) [] [] p1) "__init__" p2) (e :: es) [] p3) (ncx CX P w K mg base N (supF name qual params body scope c cc) f A outer s H E).env = (do
      let ov ← attributeBase (.Call (.Name "super" p0) [] [] p1) "__init__" (ncx CX P w K mg base N (supF name qual params body scope c cc) f A outer s H E).env (eval (.Call (.Name "super" p0) [] [] p1) (ncx CX P w K mg base N (supF name qual params body scope c cc) f A outer s H E).env)
      standAt p2.atName
      let (g, first) ← holding [ov] (getMethod ov "__init__" pl)
      callWith p3 g first (backTo p3 (starEach (e :: es) (ncx CX P w K mg base N (supF name qual params body scope c cc) f A outer s H E).env)) []))
    (hs : ∀ (A : Around) (outer : List PySem.Env) (s : Shared) (H : Hp) (E : XK), swapsWith (.Call (.Attribute (.Call (.Name "super" p0) [] [] p1) "__init__" p2) (e :: es) [] p3) none p4.line (ncx CX P w K mg base N (supF name qual params body scope c cc) f A outer s H E).env = pure false)
    (hi : ∀ (A : Around) (outer : List PySem.Env) (s : Shared) (H : Hp) (E : XK), interactive (ncx CX P w K mg base N (supF name qual params body scope c cc) f A outer s H E).env = false)
    (h1 : ∀ (A : Around) (outer : List PySem.Env) (s : Shared) (H : Hp) (E : XK), starEach (e :: es) (ncx CX P w K mg base N (supF name qual params body scope c cc) f A outer s H E).env = (false, eval e (ncx CX P w K mg base N (supF name qual params body scope c cc) f A outer s H E).env) :: starEach es (ncx CX P w K mg base N (supF name qual params body scope c cc) f A outer s H E).env ∧ (backTo p3 (starEach es (ncx CX P w K mg base N (supF name qual params body scope c cc) f A outer s H E).env)).any (·.1) = false) :
    FnOk P w K mg base CX (k + 1) f (PySem.W.ksFn name qual params body scope dV kV doc pm an (.ref c) ct cc) ps sp := by
  refine ⟨len, fun A outer s H args us vs Q E hr e0 hbd r hsp => ?_⟩
  have hl := len _ _ _ _ hsp
  have KX : K.In s.heap := e0.mod.kin.keeps fun b o e => (e0.bs b o e).1
  have lim : s.heap.NoLimit := e0.mod.nolimit.keeps fun b o e => (e0.bs b o e).1
  have S1 := hS A outer s H E
  have CA : CellsAt [("__class__", cc)] ["__class__"] [none] s.heap H := by
    obtain ⟨cc', D, ocl, cd, d1, d2, d3, _⟩ := S1.cell
    obtain rfl : cc = cc' := by
      have z : some cc = some cc' := d1
      cases z
      rfl
    have one : ∀ {y : Str} {b : Addr}, ([("__class__", cc)] : List (Str × Addr)).lookup y = some b → y = "__class__" ∧ b = cc := fun {y b} z => by
      have z' := PySem.mem_of_lookup z
      simp only [List.mem_singleton, Prod.mk.injEq] at z'
      exact z'
    refine ⟨rfl, fun y b z => ?_, fun x y b z1 z2 => (one z1).1.trans (one z2).1.symm, fun i y z => ?_⟩
    · obtain ⟨_, rfl⟩ := one z
      exact ⟨(e0.bs _ _ (e0.mod.kin _ _ d2)).2, _, ocl, KX _ _ d2, d3⟩
    · have hi : i = 0 := by
        rcases i with _ | i
        · rfl
        · cases z
      subst hi
      cases z
      exact ⟨cc, rfl, fun v z => by cases z⟩
  obtain ⟨a, ys, ta, t, rfl, ha, pa, pt, hq⟩ := hbody A outer s H vs Q E (hr.deeper _) hsp
  refine ks_codeAny_call_defAt (fd := PySem.W.ksFn name qual params body scope dV kV doc pm an (.ref c) ct cc) (body := body) (binds := ps.zip us) hr.depth (KX _ _ lk) rfl lim (PySem.W.codeRec_of KX hcd) rfl hbd S.nocell
    (fun ⟨n, _⟩ hy => S.par n (List.of_mem_zip hy).1) (fun h₁ hns kp => ?_) S.co S.gen S.kind
  have I : Inv (ncx CX P w K mg base N (supF name qual params body scope c cc) f A outer s H E) [] (startF N (.ref a :: ys) [none]) H { s with heap := h₁, toks := s.toks + (ps.zip us).length } := inv_startN S hr.hd e0 hl r CA hns kp
  have fin : ∀ {s' : Shared} {σ' : L2.St} {H' : Hp} {v : V} {u : Value}, Inv (ncx CX P w K mg base N (supF name qual params body scope c cc) f A outer s H E) [] σ' H' s' → L2.RelV v u → Q v H' → CE outer P w H s Q u s' :=
    fun {s' σ' H' v u} J rv q => ⟨v, H', J.os, J.bare, J.base, J.hok, rv, q⟩
  have key : _root_.PySem.wpAt (model P w) (A.deeper (envF (supF name qual params body scope c cc) f s.heap.objs.size)) (.func body (envF (supF name qual params body scope c cc) f s.heap.objs.size)) (execs body (envF (supF name qual params body scope c cc) f s.heap.objs.size))
      (SP (ncx CX P w K mg base N (supF name qual params body scope c cc) f A outer s H E) [] { nx := fun _ H' => Q .non H', rt := Q }) (ncx CX P w K mg base N (supF name qual params body scope c cc) f A outer s H E).xe { s with heap := h₁, toks := s.toks + (ps.zip us).length } := by
    obtain ⟨pl, hcc⟩ := hc A outer s H E
    rw [hb]
    refine ks_wpAt_execs_cons ?_
    exact sup_st (X := ncx CX P w K mg base N (supF name qual params body scope c cc) f A outer s H E) (body := _) S1 T I ha rfl pa hq (fun s' H1 J q => _root_.PySem.wpAt_of_wpAny (pt.run [] s' _ H1 _ J q)) hcc (hs A outer s H E) (hi A outer s H E) (h1 A outer s H E).1 (h1 A outer s H E).2
  refine ks_wpAt_mono key (fun fl s' hs => ?_) fun e' s' h' => h'
  cases fl with
  | ret u =>
    obtain ⟨v, σ', H', J, rv, q⟩ := hs
    exact fin J rv q
  | next =>
    obtain ⟨σ', H', J, q⟩ := hs
    exact fin (v := V.non) (u := Value.none) J rfl q
  | brk =>
    obtain ⟨_, _, _, q⟩ := hs
    exact False.elim q
  | cont =>
    obtain ⟨_, _, _, q⟩ := hs
    exact False.elim q
end
end L3
/-! L8h: what a law's text says of an error class with super().__init__. -/
namespace L3
open PySem L2 PyProof.Rows PySem.F NdefX
/-- an __init__ that closes over __class__, its code object and its cell -/
structure FunS (P : Program) (K : PySem.W.Frag) (mg : Str → Option Value) (C : Addr) (qual me : Str) (st : Stmt) (f c cc : Addr) (fd : FuncData) : Prop where
  ex : ∃ (oc : Value) (od : Option Addr) (dV kV doc pm : Value) (an : Option Addr) (ct : Value) (osl : Array (Option Value)),
    fd = PySem.W.ksFn "__init__" qual (defArgs st) (defBody st) (defScope st) dV kV doc pm an (.ref c) ct cc ∧ K.lookup f = some ⟨oc, od, .func fd, osl⟩ ∧ PySem.W.codeIn K (.ref c) qual = true
  ar : ∃ a : Arg, ((defArgs st).posonlyargs ++ (defArgs st).args).head? = some a ∧ a.arg = me
  co : ∃ (oc : Obj) (vs : Array Value) (file : Str) (tf : Tok), K.lookup c = some oc ∧ oc.data = .fields vs ∧ vs[2]? = some (.str file tf) ∧ ((P.main.file : Str) == file) = true
  top : (P.main.scope.names.lookup ("super" : Str)).isSome = false
  sup : mg "super" = none
  cell : ∃ (D : Addr) (oc : Obj) (cd : ClassData), K.lookup cc = some oc ∧ oc.data = .cell (some (.ref D)) ∧ PySem.W.clsIn K D = some cd ∧ PySem.W.mroIn K C (.ref D) = some true ∧ PySem.W.ks_superIn K C D "__init__" = some (some (.builtin "ValueError.__init__"))
  vb : PySem.W.subIn K (.ref C) (.type "ValueError") = some true
  any : PySem.W.nsIn K cStatics "thirdparty.any" = some none
section
variable {P : Program} {w : World} {K : PySem.W.Frag} {mg : Str → Option Value} {base : Heap} {C f c cc : Addr} {qual me : Str} {st : Stmt} {fd : FuncData} {N ps : List Str}
theorem FunS.supT (F : FunS P K mg C qual me st f c cc fd) (k1 : (defScope st).kind = .function) (k2 : (defScope st).names.lookup ("super" : Str) = some .globalImplicit) (k3 : (defScope st).names.lookup ("__class__" : Str) = some .free) (k4 : (defScope st).names.lookup me = some .local)
    (hN : N[0]? = some me) (nd : (me == ("__debug__" : Str)) = false) (A : Around) (outer : List PySem.Env) (s : Shared) (H : Hp) (E : XK) : SupT (ncx CX0 P w K mg base N (supF "__init__" qual (defArgs st) (defBody st) (defScope st) c cc) f A outer s H E) C f me := by
  obtain ⟨oc, od, dV, kV, doc, pm, an, ct, osl, rfl, lk, hcd⟩ := F.ex
  obtain ⟨a, ha, hm⟩ := F.ar
  obtain ⟨o2, vs, file, tf, c1, c2, c3, c4⟩ := F.co
  obtain ⟨D, o3, cd, d1, d2, d3, d4, d5⟩ := F.cell
  exact { ks := k2, kc := k3, kl := k4, fu := rfl, fn := ⟨_, _, a, lk, rfl, ha, hm⟩, co := ⟨c, o2, vs, file, tf, rfl, c1, c2, c3, c4⟩, top := F.top, sup := F.sup,
          cell := ⟨cc, D, o3, cd, rfl, d1, d2, d3, d4, d5⟩, vb := F.vb, any := F.any, N0 := hN, nd := nd }
end
end L3
/-! L8i: raise of an error whose own text is put together from its arguments. -/
namespace L3
open PySem L2
/-- a short text -/
def ShV (v : V) : Prop := ∃ y : Str, v = .str y ∧ y.length ≤ 1000
def ShD (d : D) : Prop := ∃ y : Str, d = .str y ∧ y.length ≤ 1000
theorem rp_sh {K : PySem.W.Frag} {H : Hp} : ∀ {vs : List V} {ds : List D}, RpAll K H vs ds → (∀ d ∈ ds, ShD d) → ∀ v ∈ vs, ShV v
  | _, _, .nil, _, _, hv => nomatch hv
  | _, _, .cons h t, k, v, hv => by
    rcases List.mem_cons.mp hv with e | e
    · subst e
      obtain ⟨y, rfl, hy⟩ := k _ List.mem_cons_self
      cases h
      exact ⟨y, rfl, hy⟩
    · exact rp_sh t (fun d hd => k d (List.mem_cons_of_mem _ hd)) v e
/-- an error's __init__ that keeps its short arguments -/
def spXS (C : Addr) (fs : List Str) : Sp := fun vs H Q E => spXI C fs vs H Q E ∧ ∀ v ∈ vs.tail, ShV v
section
variable {c : Ctx} {ρ : List SD} {n : Nat} {as : TA} {W : WX} {Ψ : Out}
theorem ws_raiseS {C : Addr} {fs : List Str} {Ξ : Er} (hw : XA c W Ξ) (h : WA c as ρ n fun n1 ds => ds.length = fs.length ∧ fs.length ≤ 1000 ∧ (∀ d ∈ ds, ShD d) ∧ Ξ n1 ρ C (fs.zip ds).reverse) :
    WS c (fun _ σ H => tMkO C (spXS C fs) [] as σ H fun cls d H' => W cls d σ H') ρ n Ψ := fun P L σ H Dn E A => by
  refine h P L σ H _ E fun vs ds n1 H1 s1 j1 r1 ⟨hl, hz, hsh, k⟩ => ?_
  have E1 := E.step s1 j1
  have hvl : vs.length = fs.length := r1.length.trans hl
  refine ⟨by omega, fun a ha => ⟨⟨a, vs, by rw [List.append_nil], hvl, upd_same, fun d H' hd e1 e2 e3 => ?_⟩, fun v hv => rp_sh r1 hsh v (by rw [List.append_nil] at hv; exact hv)⟩⟩
  have hda : d ≠ a := fun z => by
    rw [z, upd_same] at hd
    cases hd
  have hd1 : H1 d = none := by rw [upd_ne hda] at hd; exact hd
  refine ⟨rfl, d, _, e1, e2, hd1, ?_⟩
  have eH : upd (del H' a) d (.xd (fs.zip vs).reverse) = upd H1 d (.xd (fs.zip vs).reverse) := by
    funext b
    by_cases hb : b = d
    · rw [hb, upd_same, upd_same]
    · rw [upd_ne hb, upd_ne hb]
      by_cases hba : b = a
      · rw [hba, del_same, ha]
      · rw [del_ne hba, e3 b hba hb, upd_ne hba]
  rw [eH]
  have dO : d ∉ L ++ c.O := E1.noO d hd1
  have sm : Same H1 (upd H1 d (.xd (fs.zip vs).reverse)) := same_upd_new hd1
  obtain ⟨s2, j2⟩ := E1.same sm
  exact hw P L n1 _ σ ρ C d _ _ (E1.step s2 j2) upd_same dO ((rpfs_zip r1).rev.mono (same_hid_of sm)) k
end
/-- an own error: X.__init__ puts a text together and keeps its arguments as the fields fs -/
structure XnS (P : Program) (w : World) (K : PySem.W.Frag) (mg : Str → Option Value) (base : Heap) (x : Str) (fs : List Str) where
  C : Addr
  fI : Addr
  fd : FuncData
  ps : List Str
  T : OexC K C
  iC : PySem.W.findIn K (.ref C) "__init__" = some (some (.ref fI))
  tI : PySem.W.typeIn K (.ref fI) = some (.type "function")
  G : FnOk P w K mg base CX0 1 fI fd ps (spXS C fs)
  b : Binds K fd ps []
  m : mg x = some (.ref C)
  xf : XfC K C
  no : ∀ f ∈ fs, PySem.W.findIn K (.ref C) f = some none
  te : PySem.W.exmOne K (.ref C) (.ref C) = some true
/-- an __init__(self, x) that says super().__init__(f'text{x}') and keeps x -/
theorem xs1_go {K : PySem.W.Frag} {C : Addr} {f1 t : Str} (T : OexC K C) (n1 : PySem.W.findIn K (.ref C) f1 = some none) (ht : (Str.empty ++ t).length ≤ 1000) {vs : List V} {H : Hp} {Q : VK} {E : XK} (h : spXS C [f1] vs H Q E) (r : List (Option V)) {rt : VK} :
    ∃ (a : Addr) (ys : List V), vs = .ref a :: ys ∧ H a = some (exo a C none) ∧
      tCons (fun σ H Q => tJs [tC (.str t), tFmt (tVar 1)] Str.empty σ H fun out H1 => Q (.str out) H1) tNil (vs.map some ++ r) H fun us H1 => us.length ≤ 1000 ∧ H1 a = some (exo a C none) ∧ tOst K f1 (tVar 0) (tVar 1) { nx := fun _ H' => Q .non H', rt := rt } (vs.map some ++ r) H1 := by
  obtain ⟨⟨a, ws, rfl, hl, ha, q⟩, hs⟩ := h
  have slen : ∀ x : Str, x.length ≤ 3000 → x.length ≤ sizeLine := fun x h => by
    rw [sizeLine_eq]
    omega
  match ws, hl with
  | [y1], _ =>
    refine ⟨a, _, rfl, ha, ?_⟩
    have fin : tOst K f1 (tVar 0) (tVar 1) { nx := fun _ H' => Q .non H', rt := rt } ([V.ref a, y1].map some ++ r) H := by
      refine ⟨_, rfl, _, rfl, a, C, rfl, T, n1, .inl ⟨ha, fun dx hn hne => ?_⟩⟩
      refine q dx _ hn upd_same ?_ fun b hb hb2 => ?_
      · rw [upd_ne hne, upd_same]
        rfl
      · rw [upd_ne hb, upd_ne hb2]
    have one : ∀ z : Str, z.length ≤ 2000 → (Str.empty ++ t ++ z).length ≤ sizeLine := fun z hz => slen _ (by
      rw [Str.length_append]
      omega)
    obtain ⟨y, rfl, hy⟩ := hs y1 (by simp)
    exact ⟨_, rfl, slen _ (by omega), _, rfl, .inl ⟨y, rfl, slen _ (by omega), y, rfl, one y (by omega), by simp, ha, fin⟩⟩
end L3
/-! L9a: rules that earlier laws carried in their own texts; isinstance of a held error with fields. -/
namespace L3
open PySem L2
theorem ws_cut {c : Ctx} {ρ : List SD} {n : Nat} {ts us : TS} {Ψ : Out} (Nx : Nat → List SD → Prop) (h : WS c ts ρ n { nx := Nx, rt := fun _ _ => False }) (k : ∀ n1 ρ1, Nx n1 ρ1 → WS c us ρ1 n1 Ψ) : WS c (tSeq ts us) ρ n Ψ :=
  ws_seq (h.mono (fun n1 ρ1 q => k n1 ρ1 q) (fun _ _ q => q.elim) (fun _ _ q => q.elim) (fun _ _ q => q.elim))
theorem ws_cut2 {c : Ctx} {ρ : List SD} {n : Nat} {ts us : TS} {Ψ : Out} (Nx : Nat → List SD → Prop) (h : WS c ts ρ n { nx := Nx, rt := Ψ.rt }) (k : ∀ n1 ρ1, Nx n1 ρ1 → WS c us ρ1 n1 Ψ) : WS c (tSeq ts us) ρ n Ψ :=
  ws_seq (h.mono (fun n1 ρ1 q => k n1 ρ1 q) (fun _ _ q => q) (fun _ _ q => q.elim) (fun _ _ q => q.elim))
def forget : SD → SD
  | .val d => .val d
  | _ => .un
theorem Slots.forget {pr : Program} {wd : World} {K : PySem.W.Frag} {O : List Addr} {H : Hp} : ∀ {σ : List (Option V)} {ρ : List SD} {L : List Addr}, Slots pr wd K O H σ ρ L → Slots pr wd K O H σ (ρ.map L3.forget) []
  | _, _, _, .nil => .nil
  | _, _, _, .un s => .un s.forget
  | _, _, _, .val h s => .val h s.forget
  | _, _, _, .own _ _ s => .un s.forget
  | _, _, _, .dic _ s => .un s.forget
  | _, _, _, .dk _ s => .un s.forget
  | _, _, _, .tw _ s => .un s.forget
  | _, _, _, .ot _ _ s => .un s.forget
section
variable {P : Program} {w : World} {K : PySem.W.Frag} {O : List Addr} {bag : Option (Addr × Addr)} {p C dx : Addr} {H00 : Hp} {ρ : List SD} {n : Nat} {ks : List (Str × D)} {Φ : Nat → List (Str × D) → Prop} {ts us vs : TS}
theorem wnx_preF (h : ∀ H0, Same (hid (p :: bagB bag) H00) (hid (p :: bagB bag) H0) → WS ⟨P, w, K, p :: O, bag, H0⟩ ts ρ n { nx := fun n1 ρ1 => WNX P w K O bag p C dx H00 us (ρ1.map forget) n1 ks Φ, rt := fun _ _ => False }) : WNX P w K O bag p C dx H00 (tSeq ts us) ρ n ks Φ := fun H σ fs Dn h00 hp pO hf E q => by
  refine h H h00 (fun _ => none) [] σ H { Dn with nx := us Dn } E { nx := fun L n1 H1 σ1 ρ1 E1 hn => ?_, rt := fun _ _ _ _ _ _ _ h => h.elim, bk := fun _ _ _ _ _ _ h => h.elim, ct := fun _ _ _ _ _ _ h => h.elim }
  have pB : p ∉ bagB bag := fun z => by
    obtain ⟨q, hq⟩ := (mem_B (c := ⟨P, w, K, p :: O, bag, H⟩)).mp z
    obtain ⟨xs, hx⟩ := (E.bag p q hq).lst
    rw [hp] at hx; cases hx
  have hp1 : H1 p = some (.ins C dx fs) := (hid_some.mp (E1.base p _ (hid_some.mpr ⟨pB, hp⟩))).2
  have bO : ∀ a, a ∈ bagB bag → a ∈ p :: O := fun a ha => E.inO (show a ∈ (⟨P, w, K, p :: O, bag, H⟩ : Ctx).B from ha)
  have s0 : Same (hid (p :: O) H) (hid (p :: O) H1) := same_hid_more bO E1.base
  have sp : Same (hid (p :: bagB bag) H) (hid (p :: bagB bag) H1) := same_hid_more (fun a ha => List.mem_cons_of_mem _ ha) E1.base
  obtain ⟨Ls, sl, sb⟩ := E1.slots
  refine hn H1 σ1 fs Dn (h00.trans sp) hp1 pO (hf.mono s0) ?_ fun σ' fs' ks' n' H' s' b' hp' hf' kk' => q σ' fs' ks' n' H' (sp.trans s') b' hp' hf' kk'
  exact { nd := List.nodup_nil, fresh := (fun l hl => nomatch hl), slots := ⟨[], sl.forget.move (fun l hl => nomatch hl) (same_hid_sub fun a ha => List.mem_append_right _ ha), List.Sublist.refl _⟩, lst := (fun l hl => nomatch hl), bag := E1.bag, base := Same.refl _,
          pers := (fun _ _ e => nomatch e), bO := E1.bO, al := E1.al }
theorem wnx_assoc (h : WNX P w K O bag p C dx H00 (tSeq (tSeq ts us) vs) ρ n ks Φ) : WNX P w K O bag p C dx H00 (tSeq ts (tSeq us vs)) ρ n ks Φ := h
end
/-- what isinstance asks of an own class -/
structure IsaT (K : PySem.W.Frag) (C : Addr) : Prop where
  ha : PySem.W.findIn K (.ref C) "__class__" = some (some (.builtin "object.__class__"))
  hn : PySem.W.specialIn K (.builtin "object.__class__") "__get__" = some (some (.builtin "getset_descriptor.__get__"))
  htk : PySem.W.takesIn K (.builtin "object.__class__") = some true
  hm : PySem.W.mroIn K C (.type "object") = some true
theorem rc_isiO {K : PySem.W.Frag} {Φ : D → Prop} {C : Addr} {ks : List (Str × D)} (cl : Cls K C) (T : IsaT K C) (k : Φ (.bl true)) : RCD K (rIsi K) [.obj C ks, .adr C] Φ := fun O H xs Q rs no q => by
  obtain ⟨v, u, rfl, r1, r2⟩ := rs.two
  cases r2
  cases r1 with
  | obj h1 hf => exact ⟨_, .ref C, .ref C, .ref C, true, rfl, .own C, .base (.ins (hid_some.mp h1).2 cl T.ha T.hn T.htk T.hm), if_pos (by simp), q _ _ H (Same.refl _) (.bl _) k⟩
/-- a class whose __init__ may raise, as callers see it -/
structure Mnx (P : Program) (w : World) (K : PySem.W.Frag) (mg : Str → Option Value) (base : Heap) (C : Addr) (x : Str) (k : Nat) (ps : List Str) (dv : List V) (dw : List Value) (S : SpecIX) where
  fI : Addr
  fd : FuncData
  M : Mk K C fI
  cl : Cls K C
  G : FnOk P w K mg base (L2.CX P w) k fI fd ps (spIX K C S)
  m : mg x = some (.ref C)
  b : Binds K fd ps dw
  v : Vals dv dw
/-- a class with its own ==, as callers see it -/
structure On (P : Program) (w : World) (K : PySem.W.Frag) (mg : Str → Option Value) (base : Heap) (C : Addr) (k : Nat) (ps : List Str) (S : L3.Spec) where
  f : Addr
  fd : FuncData
  T : OwnEqT K C f
  G : FnOk P w K mg base CX0 k f fd ps (spD K S)
  b : Binds K fd ps []
theorem xa_false {c : Ctx} : XA c (fun _ _ _ _ => False) (fun _ _ _ _ => False) := fun _ _ _ _ _ _ _ _ _ _ _ _ _ _ h => h
theorem fn_calm {P : Program} {w : World} {K : PySem.W.Frag} {mg : Str → Option Value} {base : Heap} {k : Nat} {f : Addr} {fd : FuncData} {ps : List Str} {S : SpecX} {S' : Spec} (F : FnOk P w K mg base (L2.CX P w) k f fd ps (spDX K S))
    (h : ∀ bag n ds Φ, S' bag n ds Φ → S bag n ds Φ fun _ _ _ => False) : FnOk P w K mg base CX0 k f fd ps (spD K S') := by
  have conv : ∀ vs H Q E, spD K S' vs H Q E → spDX K S vs H Q fun _ _ _ => False := fun vs H Q E ⟨O, bag, n, ds, Φ, hb, hO, r, hS, q⟩ => ⟨O, bag, n, ds, Φ, _, hb, hO, r, h _ _ _ _ hS, q, fun _ _ _ _ _ _ _ _ _ _ _ z => z⟩
  refine ⟨fun vs H Q E q => F.len vs H Q _ (conv _ _ _ _ q), fun A outer s H args us vs Q E hr he hb hv hs => codeAny_mono (F.run A outer s H args us vs Q _ hr he hb hv (conv _ _ _ _ hs)) fun r s' hq => ?_⟩
  cases r with
  | ok fl => cases fl <;> exact hq
  | error e =>
    obtain ⟨_, _, _, _, _, _, _, _, _, _, _, _, z⟩ := hq
    exact z.elim
theorem exm_no {K : PySem.W.Frag} {S T : PySem.Addr} (h1 : PySem.W.subIn K (.ref T) (.type "BaseException") = some true) (h2 : PySem.W.isClsIn K T = true) (h3 : PySem.W.typeIn K (.ref T) = some (.type "type")) (h4 : PySem.W.subIn K (.ref S) (.ref T) = some false) : PySem.W.exmOne K (.ref S) (.ref T) = some false := by
  have e1 : (PySem.W.subIn K (.ref T) (.type "BaseException") == some true) = true := by rw [h1] <;> rfl
  have e2 : ((PySem.W.clsIn K T).isSome && PySem.W.typeIn K (.ref T) == some (.type "type")) = true := by
    have h2' : (PySem.W.clsIn K T).isSome = true := h2
    rw [h2', h3] <;> rfl
  show (if (PySem.W.subIn K (.ref T) (.type "BaseException") == some true) = true then (if ((PySem.W.clsIn K T).isSome && PySem.W.typeIn K (.ref T) == some (.type "type")) = true then PySem.W.subIn K (.ref S) (.ref T) else none) else none) = some false
  rw [if_pos e1, if_pos e2]
  exact h4

section
open PyProof.Rows
/-- isinstance(e, c), e the error that the suite holds; it has fields -/
def rIsED (K : PySem.W.Frag) (a : Addr) (cls : Value) (d : Option Addr) : List V → Hp → VK → Prop := fun xs H Q => ∃ (C dd : Addr) (fs : List (Str × V)) (c : V) (cv : Value) (b : Bool), xs = [.ref a, c] ∧ cls = .ref C ∧ d = some dd ∧ H dd = some (.xd fs) ∧ ExcC K C ∧ PySem.W.kitCls K (.ref C) (.ref C) = some true ∧
  (∀ u, RelV c u → u = cv) ∧ PySem.W.kitOne K (.ref C) cv = some b ∧ Q (.bl b) H
theorem call_isED {X : Cx} {a : Addr} {cls : Value} {d : Option Addr} {oe : Obj} {pn : List (Addr × Obj)} (K : PySem.W.Frag) (hz : Zc cls d oe) (hf : ∃ vs, oe.data = .fields vs) (hK : X.K = K := by rfl) : CallR (X.suite a ((a, oe) :: pn)) (.builtin "isinstance") (rIsED K a cls d) := by
  subst hK
  intro pins s σ H xs us Q I r h
  obtain ⟨C, dd, fs, c, cv, b, rfl, ec, ed, ea, TC, hself, hcv, e, q⟩ := h
  subst ec
  subst ed
  cases r with
  | cons rx rr =>
    cases rr with
    | cons rt rr =>
      cases rr
      cases rx
      have ecv := hcv _ rt
      subst ecv
      obtain ⟨hget, _⟩ := I.pin (a, oe) (List.mem_append.mpr (.inl List.mem_cons_self))
      obtain ⟨vs, hv⟩ := hf
      have hx : ObjOk X.prog X.w H s.heap dd (.xd fs) := I.hok dd _ ea
      obtain ⟨mA, hns, hr⟩ := hx
      obtain ⟨od, ho, hl⟩ := lookIn_ns hns
      have J : PySem.W.InstAt s.heap a oe C (some od) := ⟨hget, hz.1, by unfold PySem.W.notCls; rw [hv] <;> rfl, by rw [hz.2]; exact ho⟩
      exact PySem.W.kia_one (L3U.kitEr (x := a) (ox := oe) (od := od) TC hself) I.kIn J e (fun z => nomatch z) fun tk => ⟨.bl b, H, I.kept (t' := tk) fun _ _ z => z, rfl, q⟩
end
section
variable {c : Ctx} {ρ : List SD} {n : Nat} {as : TA} {Φ : Nat → D → Prop}
theorem we_isED {C C' a dx : Addr} {ks : List (Str × D)} {b : Bool} (hd : Held c dx ks) (T : ErC c.K C) (hk : PySem.W.kitOne c.K (.ref C) (.ref C') = some b) (h : WA c as ρ n fun n1 ds => ds = [.adr a, .adr C'] ∧ Φ n1 (.bl b)) :
    WE c (tCB (rIsED c.K a (.ref C) (some dx)) as) ρ n Φ := fun P L σ H Q E q => by
  refine h P L σ H _ E fun vs ds n1 H1 s1 j1 r1 ⟨e, k⟩ => ?_
  subst e
  have E1 := E.step s1 j1
  obtain ⟨v, u, rfl, r1, r2⟩ := r1.two
  cases r1
  cases r2
  obtain ⟨⟨fs, h1, h2⟩, ho⟩ := hd
  exact ⟨C, dx, fs, .ref C', .ref C', b, rfl, rfl, rfl, (hid_some.mp (E1.old dx _ (hid_some.mpr ⟨ho, h1⟩))).2, T.ec, T.self, (fun u r => r), hk, q _ _ n1 H1 s1 j1 (.bl b) k⟩
end
end L3
/-! L9b: plain things, dicts among them; what isinstance says of them. -/
namespace L3
open PySem L2
mutual
def thg : D → Bool
  | .non => true
  | .bl _ => true
  | .int _ => true
  | .str z => decide (z.cps.size ≤ 1000) && fit (.str z)
  | .lst xs => thgAll xs
  | .tup xs => thgAll xs
  | .dct _ => true
  | _ => false
def thgAll : List D → Bool
  | [] => true
  | x :: xs => thg x && thgAll xs
end
theorem thgAll_mem : ∀ {xs : List D} {x : D}, thgAll xs = true → x ∈ xs → thg x = true
  | y :: ys, x, h, hx => by
    have h' : (thg y && thgAll ys) = true := h
    rw [Bool.and_eq_true] at h'
    rcases List.mem_cons.mp hx with q | q
    · rw [q]; exact h'.1
    · exact thgAll_mem h'.2 q
theorem thgAll_of : ∀ {xs : List D}, (∀ x ∈ xs, thg x = true) → thgAll xs = true
  | [], _ => rfl
  | y :: ys, h => by
    show (thg y && thgAll ys) = true
    rw [Bool.and_eq_true]
    exact ⟨h y List.mem_cons_self, thgAll_of fun x hx => h x (List.mem_cons_of_mem _ hx)⟩
def wholeD : D → Bool
  | .int _ => true
  | _ => false
def isRowD : D → Bool
  | .lst _ => true
  | .tup _ => true
  | _ => false
def rowOf : D → List D
  | .lst xs => xs
  | .tup xs => xs
  | _ => []
def rowD (b : Bool) (ds : List D) : D := if b then .lst ds else .tup ds
theorem row_is {d : D} (h : isRowD d = true) : ∃ b xs, d = rowD b xs := by
  cases d with
  | lst xs => exact ⟨true, xs, rfl⟩
  | tup xs => exact ⟨false, xs, rfl⟩
  | _ => cases h
theorem row_seq (b : Bool) (ds : List D) : seqD (rowD b ds) = some ds := by cases b <;> rfl
theorem row_len (b : Bool) (ds : List D) : lenD (rowD b ds) = some (ds.length : Int) := by cases b <;> rfl
theorem row_of (b : Bool) (ds : List D) : rowOf (rowD b ds) = ds := by cases b <;> rfl
theorem row_isr (b : Bool) (ds : List D) : isRowD (rowD b ds) = true := by cases b <;> rfl
theorem row_ix {b : Bool} {ds : List D} {j : Nat} {d : D} (h : ds[j]? = some d) : ixD (rowD b ds) (j : Int) = some d := by
  cases b <;> exact ixD_nat h
theorem thg_row {b : Bool} {ds : List D} (h : thg (rowD b ds) = true) : thgAll ds = true := by cases b <;> exact h
theorem all_wh : ∀ {xs : List D}, xs.all wholeD = true → ∃ ks : List Int, xs = ks.map .int
  | [], _ => ⟨[], rfl⟩
  | x :: xs, h => by
    rw [List.all_cons, Bool.and_eq_true] at h
    obtain ⟨ks, e⟩ := all_wh h.2
    cases x with
    | int i => exact ⟨i :: ks, by rw [e]; rfl⟩
    | _ => cases h.1
theorem three_of {α : Type} {xs : List α} (h : xs.length = 3) : ∃ x y z, xs = [x, y, z] := by
  match xs, h with
  | [x, y, z], _ => exact ⟨x, y, z, rfl⟩
theorem kit_no {K : PySem.W.Frag} {T : String} (h1 : kitB T "list" = some false) (h2 : kitB T "tuple" = some false) : PySem.W.kitAny K (.type T) (["list", "tuple"].map Value.type) = some false :=
  kitAny_cons (b := false) (kit_ty h1) (fun _ => kitAny_cons (b := false) (kit_ty h2) (fun _ => rfl) nofun) nofun
theorem rc_isRow {K : PySem.W.Frag} {Φ : D → Prop} {d : D} (h : thg d = true) (k : Φ (.bl (isRowD d))) : RCD K (rIsi2 K) [d, .tup (["list", "tuple"].map .ty)] Φ := by
  cases d with
  | lst xs => exact rc_isi2 (Us := ["list", "tuple"]) (T := "list") rfl kit_rowL k
  | tup xs => exact rc_isi2 (Us := ["list", "tuple"]) (T := "tuple") rfl kit_rowT k
  | non => exact rc_isi2 (Us := ["list", "tuple"]) (T := "NoneType") rfl (kit_no (by decide +kernel) (by decide +kernel)) k
  | bl b => exact rc_isi2 (Us := ["list", "tuple"]) (T := "bool") rfl (kit_no (by decide +kernel) (by decide +kernel)) k
  | int i => exact rc_isi2 (Us := ["list", "tuple"]) (T := "int") rfl (kit_no (by decide +kernel) (by decide +kernel)) k
  | dct kvs => exact rc_isi2 (Us := ["list", "tuple"]) (T := "dict") rfl (kit_no (by decide +kernel) (by decide +kernel)) k
  | str z => exact rc_isi2 (Us := ["list", "tuple"]) (T := "str") rfl (kit_no (by decide +kernel) (by decide +kernel)) k
  | _ => cases h
def isIntD : D → Bool
  | .int _ => true
  | .bl _ => true
  | _ => false
def isBoolD : D → Bool
  | .bl _ => true
  | _ => false
def isStrD : D → Bool
  | .str _ => true
  | _ => false
section
variable {K : PySem.W.Frag} {Φ : D → Prop} {d : D}
theorem rc_isInt (h : thg d = true) (k : Φ (.bl (isIntD d))) : RCD K (rIsi K) [d, .ty "int"] Φ := by
  cases d with
  | lst xs => exact rc_isi (T := "list") (b := false) rfl (by decide +kernel) k
  | tup xs => exact rc_isi (T := "tuple") (b := false) rfl (by decide +kernel) k
  | non => exact rc_isi (T := "NoneType") (b := false) rfl (by decide +kernel) k
  | bl b => exact rc_isi (T := "bool") (b := true) rfl (by decide +kernel) k
  | int i => exact rc_isi (T := "int") (b := true) rfl (by decide +kernel) k
  | str z => exact rc_isi (T := "str") (b := false) rfl (by decide +kernel) k
  | dct kvs => exact rc_isi (T := "dict") (b := false) rfl (by decide +kernel) k
  | _ => cases h
theorem rc_isBool (h : thg d = true) (k : Φ (.bl (isBoolD d))) : RCD K (rIsi K) [d, .ty "bool"] Φ := by
  cases d with
  | lst xs => exact rc_isi (T := "list") (b := false) rfl (by decide +kernel) k
  | tup xs => exact rc_isi (T := "tuple") (b := false) rfl (by decide +kernel) k
  | non => exact rc_isi (T := "NoneType") (b := false) rfl (by decide +kernel) k
  | bl b => exact rc_isi (T := "bool") (b := true) rfl (by decide +kernel) k
  | int i => exact rc_isi (T := "int") (b := false) rfl (by decide +kernel) k
  | str z => exact rc_isi (T := "str") (b := false) rfl (by decide +kernel) k
  | dct kvs => exact rc_isi (T := "dict") (b := false) rfl (by decide +kernel) k
  | _ => cases h
theorem rc_isStr (h : thg d = true) (k : Φ (.bl (isStrD d))) : RCD K (rIsi K) [d, .ty "str"] Φ := by
  cases d with
  | lst xs => exact rc_isi (T := "list") (b := false) rfl (by decide +kernel) k
  | tup xs => exact rc_isi (T := "tuple") (b := false) rfl (by decide +kernel) k
  | non => exact rc_isi (T := "NoneType") (b := false) rfl (by decide +kernel) k
  | bl b => exact rc_isi (T := "bool") (b := false) rfl (by decide +kernel) k
  | int i => exact rc_isi (T := "int") (b := false) rfl (by decide +kernel) k
  | str z => exact rc_isi (T := "str") (b := true) rfl (by decide +kernel) k
  | dct kvs => exact rc_isi (T := "dict") (b := false) rfl (by decide +kernel) k
  | _ => cases h
end
theorem thg_ints (ks : List Int) : thgAll (ks.map D.int) = true := thgAll_of fun x hx => by
  obtain ⟨k, _, rfl⟩ := List.mem_map.mp hx
  rfl
theorem thg_rowD {b : Bool} {ds : List D} (h : thgAll ds = true) : thg (rowD b ds) = true := by cases b <;> exact h
theorem whole_is {d : D} (h : wholeD d = true) : ∃ i, d = .int i := by
  cases d with
  | int i => exact ⟨i, rfl⟩
  | _ => cases h
/-- a whole number from a to b -/
def ftD (d : D) (a b : Int) : Bool := match d with
  | .int i => decide (a ≤ i) && decide (i ≤ b)
  | _ => false
theorem ft_is {d : D} {a b : Int} (h : ftD d a b = true) : ∃ i, d = .int i ∧ a ≤ i ∧ i ≤ b := by
  cases d with
  | int i =>
    have h' : (decide (a ≤ i) && decide (i ≤ b)) = true := h
    rw [Bool.and_eq_true, decide_eq_true_eq, decide_eq_true_eq] at h'
    exact ⟨i, rfl, h'⟩
  | _ => cases h
end L3
/-! L9c: == and fitness of rows of ints. -/
namespace L3
open PySem L2
theorem eq_ints : ∀ (a b : List Int), PyData.eqvAll (dpyAll (a.map D.int)) (dpyAll (b.map D.int)) = decide (a = b)
  | [], [] => by simp [dpyAll, PyData.eqvAll]
  | [], _ :: _ => by simp [dpyAll, PyData.eqvAll]
  | _ :: _, [] => by simp [dpyAll, PyData.eqvAll]
  | x :: a, y :: b => by
    have ih := eq_ints a b
    show ((x == y) && PyData.eqvAll (dpyAll (a.map D.int)) (dpyAll (b.map D.int))) = _
    rw [ih]
    by_cases h : x = y
    · subst h; by_cases h2 : a = b <;> simp [h2]
    · simp [h]
theorem eq_str (a b : Str) : eqD (.str a) (.str b) = decide (a = b) := by
  show (a == b) = decide (a = b)
  by_cases h : a = b <;> simp [h]
theorem eq_tupI (a b : List Int) : eqD (.tup (a.map .int)) (.tup (b.map .int)) = decide (a = b) := eq_ints a b
theorem plain_ints : ∀ ks : List Int, plainAll (ks.map D.int) = true
  | [] => rfl
  | k :: ks => by show (true && plainAll (ks.map D.int)) = true; rw [plain_ints ks]; rfl
theorem can_ints : ∀ ks : List Int, PyData.canLayAll0 (dpyAll (ks.map D.int)) = true
  | [] => rfl
  | k :: ks => by show (true && PyData.canLayAll0 (dpyAll (ks.map D.int))) = true; rw [can_ints ks]; rfl
theorem dep_ints : ∀ ks : List Int, PyData.depthAll (dpyAll (ks.map D.int)) = 0
  | [] => rfl
  | k :: ks => by show max 0 (PyData.depthAll (dpyAll (ks.map D.int))) = 0; rw [dep_ints ks]; rfl
theorem fit_ints (ks : List Int) : fit (.tup (ks.map D.int)) = true := by
  have h : fit (.tup (ks.map D.int)) = (plainAll (ks.map D.int) && (PyData.canLayAll0 (dpyAll (ks.map D.int)) && decide (PyData.depthAll (dpyAll (ks.map D.int)) + 1 ≤ 64))) := rfl
  rw [h, plain_ints, can_ints, dep_ints]; rfl
theorem eq_lstI (a b : List Int) : eqD (.lst (a.map .int)) (.lst (b.map .int)) = decide (a = b) := eq_ints a b
theorem eq_intD (i j : Int) : eqD (.int i) (.int j) = decide (i = j) := by
  show (i == j) = decide (i = j)
  by_cases h : i = j <;> simp [h]
theorem fit_intsL (ks : List Int) : fit (.lst (ks.map D.int)) = true := fit_ints ks
theorem dep_tupI (ks : List Int) : (dpy (.tup (ks.map D.int))).depth ≤ 60 := by
  show PyData.depthAll (dpyAll (ks.map D.int)) + 1 ≤ 60
  rw [dep_ints]; decide
/-- rows of rows of ints -/
theorem fit_rows (rs : List (List Int)) : fit (.tup (rs.map fun r => .tup (r.map D.int))) = true := (fit_list fun d hd => by
  obtain ⟨r, _, rfl⟩ := List.mem_map.mp hd
  exact ⟨fit_ints r, dep_tupI r⟩).2
theorem add_tup {a b : List D} (h : a.length + b.length ≤ 1000000) : addD (.tup a) (.tup b) = some (.tup (a ++ b)) := if_pos (by rw [sizeLine_eq]; omega)
theorem add_lst {a b : List D} (h : a.length + b.length ≤ 1000000) : addD (.lst a) (.lst b) = some (.lst (a ++ b)) := if_pos (by rw [sizeLine_eq]; omega)
end L3
/-! L9d: x.insert(i, e); slices and list(x) as lists of one's own; classes made with keywords. -/
namespace L3
open PySem L2
section
variable {c : Ctx} {ρ : List SD} {n : Nat} {ta te : TE} {Ψ : Out}
abbrev rIns : V → List V → Hp → VK → Prop := fun x vs H Q => ∃ (l : Addr) (xs : List V) (i : Int) (y : V), x = .ref l ∧ vs = [.int i, y] ∧ H l = some (.lst xs) ∧ xs.length < sizeLine ∧ 0 ≤ i ∧ i < 2 ^ 63 ∧
    Q .non (upd H l (.lst (xs.take i.toNat ++ [y] ++ xs.drop i.toNat)))
theorem ws_insert {i : Nat} {ds : List D} (h0 : ρ[i]? = some (.own ds)) (h : WE c ta ρ n fun n1 d => ∃ k : Int, d = .int k ∧ 0 ≤ k ∧ k < 2 ^ 62 ∧ WE c te ρ n1 fun n2 y => ds.length < sizeLine ∧ Ψ.nx n2 (ρ.set i (.own (ds.take k.toNat ++ [y] ++ ds.drop k.toNat)))) :
    WS c (tDrop (tBM c.K "list" rIns (tVar i) (tCons ta (tCons te tNil)))) ρ n Ψ := fun P L σ H Dn E A => by
  obtain ⟨l, xs, h1, h2, h3, h4⟩ := E.own_at h0
  refine ⟨.ref l, h1, .inl ⟨rfl, xs, .inl (.inl h2)⟩, ?_⟩
  refine h P L σ H _ E fun v d n1 H1 s1 j1 r1 ⟨k, e, k0, k1, hk⟩ => ?_
  subst e
  cases r1
  have E1 := E.step s1 j1
  refine hk P L σ H1 _ E1 fun v d n2 H2 s2 j2 r2 ⟨hz, kk⟩ => ?_
  have E2 := E1.step s2 j2
  obtain ⟨l', ys, g1, g2, g3, g4⟩ := E2.own_at h0
  rw [h1] at g1
  cases g1
  refine ⟨l, ys, k, v, rfl, rfl, g2, by rw [g3.length]; exact hz, k0, by omega, ?_⟩
  exact A.nx L n2 _ σ _ (g4 _ _ (((g3.take k.toNat).append (.cons r2 .nil)).append (g3.drop k.toNat))).1 kk
end
section
variable {c : Ctx} {ρ : List SD} {n : Nat} {te : TE} {tl th : TO} {Φ : Nat → List D → Prop}
/-- list(x), one's own -/
theorem wf_list1 (h : WE c te ρ n fun n1 d => ∃ ds, seqD d = some ds ∧ Φ n1 ds) : WF c (tCB (rListD c.K) (tCons te tNil)) ρ n Φ := fun P L σ H Q E q => by
  refine h P L σ H _ E fun x d n1 H1 s1 j1 r1 ⟨ds, e, k⟩ => ?_
  have E1 := E.step s1 j1
  cases r1 with
  | @lst a ys _ hs ha =>
    cases e
    exact ⟨a, ys, rfl, .inl (.inl (same_rd same_hid hs)), fun l hl => q l ys _ n1 _ (s1.trans (E1.newT hl).1) (E.noneB s1 j1 hl) upd_same (by rw [hid_new_in hl]; exact ha) (E1.newT hl).2.1 k⟩
  | @tup a ys _ hs ha =>
    cases e
    exact ⟨a, ys, rfl, .inr (same_t same_hid hs), fun l hl => q l ys _ n1 _ (s1.trans (E1.newT hl).1) (E.noneB s1 j1 hl) upd_same (by rw [hid_new_in hl]; exact ha) (E1.newT hl).2.1 k⟩
  | _ => cases e
/-- a slice of a list, one's own -/
theorem wf_sl (h : WE c te ρ n fun n1 d => ∃ ds, d = .lst ds ∧ WO c tl ρ n1 fun n2 lo => WO c th ρ n2 fun n3 hi => Φ n3 (cutD ds lo hi)) : WF c (tSl (rSlS3 c.K) te tl th) ρ n Φ := fun P L σ H Q E q => by
  refine h P L σ H _ E fun x d n1 H1 s1 j1 r1 ⟨ds, e, h1⟩ => ?_
  subst e
  have E1 := E.step s1 j1
  refine h1 P L σ H1 _ E1 fun lo n2 H2 s2 j2 h2 => ?_
  have E2 := E1.step s2 j2
  refine h2 P L σ H2 _ E2 fun hi n3 H3 s3 j3 k => ?_
  have E3 := E2.step s3 j3
  have r3 := (r1.mono (E1.sameLO s2)).mono (E2.sameLO s3)
  have s := (s1.trans s2).trans s3
  cases r3 with
  | @lst a xs ds hs r =>
    refine .inl ⟨_, _, rfl, .inl (same_rd same_hid hs), fun p hp => ?_⟩
    have z := E3.newT (o := .lst (cutV xs lo hi)) hp
    exact q p _ _ n3 _ (s.trans z.1) (E.noneB s j3 hp) upd_same (by rw [hid_new_in hp]; exact r.cut lo hi) z.2.1 k
end
/-- a class made with a keyword behind one value, its __init__ may raise -/
structure Mnk (P : Program) (w : World) (K : PySem.W.Frag) (mg : Str → Option Value) (base : Heap) (C : Addr) (x : Str) (k : Nat) (ps ks : List Str) (n : Nat) (S : SpecIX) where
  fI : Addr
  fd : FuncData
  M : Mk K C fI
  cl : Cls K C
  G : FnOk P w K mg base (L2.CX P w) k fI fd ps (spIX K C S)
  m : mg x = some (.ref C)
  g : List Value → List Value → List Value
  kb : KBn K fd ps (n + 1) ks g (fun vs zs => vs ++ zs)
section
variable {c : Ctx} {ρ : List SD} {n : Nat} {as ts : TA} {Φ : Nat → D → Prop} {Ξ : Er}
theorem we_makeN {C : Addr} {S : SpecIX} {a b : Nat} {XE : XK} (hw : XA c (fun cls d _ H => XE cls d H) Ξ)
    (h : WA c as ρ n fun n1 ds => ds.length = a ∧ WA c ts ρ n1 fun n2 es => es.length = b ∧ S c.bag n2 (ds ++ es) (fun n2 ks => Φ n2 (.obj C ks)) fun n2 C' ks => Ξ n2 ρ C' ks) :
    WE c (tMakeN C a b (spIX c.K C S) (fun vs zs => vs ++ zs) XE as ts) ρ n Φ := fun P L σ H Q E q => by
  refine h P L σ H _ E fun vs ds n1 H1 s1 j1 r1 ⟨l1, h2⟩ => ?_
  have E1 := E.step s1 j1
  refine h2 P L σ H1 _ E1 fun zs es n2 H2 s2 j2 r2 ⟨l2, k⟩ => ?_
  refine ⟨r1.length.trans l1, r2.length.trans l2, ?_⟩
  have k' : S c.bag n2 ((ds ++ es) ++ []) (fun n2 ks => Φ n2 (.obj C ks)) fun n2 C' ks => Ξ n2 ρ C' ks := by rw [List.append_nil]; exact k
  have z := make_go (dvs := []) (dds := []) hw (fun _ => .nil) (fun _ _ _ z => z) (E1.step s2 j2) ((r1.mono (E1.sameLO s2)).append r2) k' fun v d n' H' s' j' r' kk => q v d n' H' ((s1.trans s2).trans s') j' r' kk
  intro x dx n1 n2 n3
  have z1 := z x dx n1 n2 n3
  rw [List.append_nil] at z1
  exact z1
end
end L3
namespace Toy
open PySem L2 L3 NdefX
def top (i : Nat) : Stmt := PySem.Challenge.pw_askedtrue_k44_packets_by_pascals_table.main.body.getD i (.Pass ⟨0, 0, 0, 0⟩)
structure Txt (mg : Str → Option Value) : Prop where
  b_len : mg "len" = none
  b_abs : mg "abs" = none
  b_sum : mg "sum" = none
  b_max : mg "max" = none
  b_min : mg "min" = none
  b_all : mg "all" = none
  b_any : mg "any" = none
  b_sorted : mg "sorted" = none
  b_isinstance : mg "isinstance" = none
  b_int : mg "int" = none
  b_bool : mg "bool" = none
  b_str : mg "str" = none
  b_list : mg "list" = none
  b_tuple : mg "tuple" = none
  b_range : mg "range" = none
  b_enumerate : mg "enumerate" = none
  b_dict : mg "dict" = none
theorem hu1 {k : Nat} {A : Around} (hr : Room k A) : A.units + 1 < cLine := by have := hr.un; omega
theorem hu65 {k : Nat} {A : Around} (hr : Room k A) : A.units + 65 < cLine := by have := hr.un; omega
section
variable {P : Program} {w : World} {K : PySem.W.Frag} {mg : Str → Option Value} {base : Heap}
/-! the draw -/
def spDraw : L3.Spec := fun bag n ds Φ => ∃ b q k, bag = some (b, q) ∧ ds = [.adr b, .int k] ∧ 0 < k ∧ k < 2 ^ 200 ∧ n < 2 ^ 60 ∧ ∀ r, 0 ≤ r → r < k → Φ (n + 1) (.int r)
abbrev s_law_draw : Stmt := top 21
abbrev N_law_draw : List Str := ["bag", "limit", "digit", "turn", "cells", "cell", "mixed"]
theorem sc_law_draw : FnScope N_law_draw ["bag", "limit"] (defScope s_law_draw) := ⟨rfl, rfl, rfl, by decide +kernel, rfl, by decide +kernel, by decide +kernel⟩

theorem upd3 {α : Type} (a b c x : α) : [a, b, c].set 2 x = [a, b, x] := rfl
theorem dec_gt {i j : Int} {A B : Prop} (h1 : j < i → A) (h2 : i ≤ j → B) : if decide (j < i) = true then A else B := by
  by_cases h : j < i
  · rw [if_pos (decide_eq_true h)]; exact h1 h
  · rw [if_neg (by simpa using h)]; exact h2 (by omega)
theorem ifs_ans {c : TT} {t u : TS} {D : Ends} {σ : L2.St} {H : Hp} (b : Bool) (hc : Ans c σ H b) (h1 : b = true → t D σ H) (h2 : b = false → u D σ H) : tIfS c t u D σ H := by
  refine hc _ ?_
  cases b with
  | true => exact h1 rfl
  | false => exact h2 rfl
theorem ok_draw {f : Addr} {fd : FuncData} (F : Fun K "_law_draw" "_law_draw" s_law_draw f fd) (T : Txt mg) : FnOk P w K mg base CX0 1 f fd ["bag", "limit"] (spD K spDraw) := by
  refine F.ok sc_law_draw (fun vs H Q E h => ?_) (fun cdv A outer s H vs Q E hr h => ?_)
  · obtain ⟨O, bag, n, ds, Φ, _, _, r, ⟨b, q, k, _, e, _⟩, _⟩ := h
    rw [r.length, e]; rfl
  · obtain ⟨O, bag, n, ds, Φ, hb, hO, r, ⟨b, q, k, e1, e2, k0, k1, hn, hk⟩, q0⟩ := h
    subst e1; subst e2
    obtain ⟨⟨t, r0, cs, h1, h2, h3, h4, h5, h6, h7, h8⟩, bO, qO, nqb⟩ := hb b q rfl
    obtain ⟨v1, v2, rfl, r1, r2⟩ := r.two
    cases r1
    cases r2
    have Qf : ∀ (x : Int) (t' r' : Int) (H' : Hp), 0 ≤ x → x < k → 0 ≤ t' → t' ≤ t + 1 → 0 ≤ r' → H' = upd H b (.lst [.ref q, .int t', .int r']) → Q (.int x) H' := fun x t' r' H' x0 xk t0 t1 r0 e => by
      subst e
      refine q0 _ (.int x) (n + 1) _ ?_ (fun b' q' e => ?_) (.int x) (hk x x0 xk)
      · show Same (hid [b] H) (hid [b] _)
        rw [hid_upd_in List.mem_cons_self]
        exact Same.refl _
      · cases e
        exact ⟨t', r', cs, upd_same, by rw [upd_ne nqb]; exact h2, h3, h4, h5, t0, by omega, r0⟩
    have hcl : 0 < cs.length := List.length_pos_iff.mpr h3
    have hlt : t.natAbs < 2 ^ 61 := by omega
    have hc63 : (cs.length : Int) ≤ 63 := by omega
    have kW : CDivW r0 k ∧ CDivW 0 k := by
      have : k.natAbs.log2 < 9000 := Nat.lt_of_lt_of_le (PySem.Flt.log2_lt_of (by decide) (show k.natAbs < 2 ^ 200 by omega)) (by decide)
      exact ⟨⟨k0, this⟩, ⟨k0, this⟩⟩
    refine ⟨_, (pss_cons (ps_if (pt_cmpR op_gt (pe_ix (x_ix K) (pv 0) pe_int (fun _ _ => rfl)) pe_int (nomark _)) (pss_cons (ps_set (i := 2) sc_law_draw.nd rfl (Or.inl rfl) (pe_op op_mod (pe_callTy call_intX (by rfl) T.b_int (by decide +kernel) (pa_cons (pe_ix (x_ix K) (pv 0) pe_int (fun _ _ => rfl)) pa_nil)) (pv 1)))
  (pss_cons (ps_asg (pe_op op_fdivW (pe_ix (x_ix K) (pv 0) pe_int (fun _ _ => rfl)) (pv 1)) (pg_sub (pv 0) pe_int set_list))
  (pss_one (ps_ret (pv 2))))) pss_nil)
  (pss_cons (ps_set (i := 3) sc_law_draw.nd rfl (Or.inl rfl) (pe_ix (x_ix K) (pv 0) pe_int (fun _ _ => rfl)))
  (pss_cons (ps_asg (pe_op (x_add K) (pv 3) pe_int) (pg_sub (pv 0) pe_int set_list))
  (pss_cons (ps_set (i := 4) sc_law_draw.nd rfl (Or.inl rfl) (pe_ix (x_ix K) (pv 0) pe_int (fun _ _ => rfl)))
  (pss_cons (ps_set (i := 5) sc_law_draw.nd rfl (Or.inl rfl) (pe_ix (x_ix K) (pv 4) (pe_op op_mod (pe_callTy call_intX (by rfl) T.b_int (by decide +kernel) (pa_cons (pv 3) pa_nil)) (pe_callB (x_len K) (by rfl) T.b_len (by decide +kernel) (pa_cons (pv 4) pa_nil))) (fun _ _ => rfl)))
  (pss_cons (ps_if (PW.pt (pw_and (pt_cmpR op_lt (pv 3) (pe_callB (x_len K) (by rfl) T.b_len (by decide +kernel) (pa_cons (pv 4) pa_nil)) (nomark _)) (pw_and1 (pt_cmpR op_ge (pv 5) (pe_op op_pow pe_int pe_int) (nomark _))))) (pss_cons (ps_asg (pe_op op_fdivW (pv 5) (pv 1)) (pg_sub (pv 0) pe_int set_list))
  (pss_one (ps_ret (pe_op op_mod (pe_callTy call_intX (by rfl) T.b_int (by decide +kernel) (pa_cons (pv 5) pa_nil)) (pv 1))))) pss_nil)
  (pss_cons (ps_set (i := 6) sc_law_draw.nd rfl (Or.inl rfl) (pe_op op_mod (pe_callTy call_intX (by rfl) T.b_int (by decide +kernel) (pa_cons (pe_op (x_add K) (pe_op (x_add K) (pe_op op_mul (pe_op (x_add K) (pv 5) pe_int) pe_int) (pe_op op_mul (pe_op op_mul (pv 3) (pv 3)) pe_int)) (pe_op op_mul (pv 3) pe_int)) pa_nil)) pe_int))
  (pss_cons (ps_set (i := 6) sc_law_draw.nd rfl (Or.inl rfl) (pe_op op_mod (pe_callTy call_intX (by rfl) T.b_int (by decide +kernel) (pa_cons (pe_op (x_add K) (pe_op op_mul (pv 6) pe_int) (pe_op op_mul (pe_op (x_add K) (pv 3) pe_int) pe_int)) pa_nil)) pe_int))
  (pss_one (ps_ret (pe_op op_mod (pe_callTy call_intX (by rfl) T.b_int (by decide +kernel) (pa_cons (pe_op op_fdivW (pv 6) pe_int) pa_nil)) (pv 1)))))))))))), ?_⟩
    refine ⟨_, rfl, .inl ⟨b, _, 2, .int r0, rfl, rfl, SqL.of h1, rfl, ?_⟩⟩
    refine ⟨r0, 0, rfl, rfl, _, rfl, ?_⟩
    refine dec_gt (fun hr0 => ?_) (fun hr0 => ?_)
    · refine ⟨_, rfl, .inl ⟨b, _, 2, .int r0, rfl, rfl, SqL.of h1, rfl, .inl ⟨r0, rfl, _, rfl, r0, k, rfl, rfl, k0, ?_⟩⟩⟩
      refine ⟨_, rfl, .inl ⟨b, _, 2, .int r0, rfl, rfl, SqL.of h1, rfl, _, rfl, r0, k, rfl, rfl, kW.1, ?_⟩⟩
      refine ⟨_, rfl, b, _, 2, 2, rfl, rfl, h1, rfl, _, rfl, ?_⟩
      exact Qf _ t (r0 / k) _ (Int.emod_nonneg _ (by omega)) (Int.emod_lt_of_pos _ k0) h6 (by omega) (Int.ediv_nonneg h8 (by omega)) rfl
    · refine ⟨_, rfl, .inl ⟨b, _, 1, .int t, rfl, rfl, SqL.of h1, rfl, ?_⟩⟩
      -- bag[1] = turn + 1
      refine ⟨_, rfl, .inl ⟨t, 1, rfl, rfl, _, rfl, b, _, 1, 1, rfl, rfl, h1, rfl, ?_⟩⟩
      have g1 : upd H b (.lst [.ref q, .int (t + 1), .int r0]) b = some (.lst [.ref q, .int (t + 1), .int r0]) := upd_same
      have g2 : upd H b (.lst [.ref q, .int (t + 1), .int r0]) q = some (.lst (cs.map V.int)) := by rw [upd_ne nqb]; exact h2
      -- cells = bag[0]; cell = cells[int(turn) % len(cells)]
      refine ⟨_, rfl, .inl ⟨b, _, 0, .ref q, rfl, rfl, SqL.of g1, rfl, ?_⟩⟩
      have hm0 : 0 ≤ t % (cs.length : Int) := Int.emod_nonneg _ (by omega)
      have hm1 : t % (cs.length : Int) < cs.length := Int.emod_lt_of_pos _ (by omega)
      obtain ⟨j, hj⟩ : ∃ j : Nat, t % (cs.length : Int) = j := ⟨(t % (cs.length : Int)).toNat, by omega⟩
      have hjl : j < cs.length := by omega
      have hat : atI (cs.map V.int) (t % (cs.length : Int)) = some (.int cs[j]) := by
        rw [hj]
        exact atI_nat (by rw [List.getElem?_map, List.getElem?_eq_getElem hjl]; rfl)
      have hc0 : 0 ≤ cs[j] := h4 _ (List.getElem_mem hjl)
      refine ⟨_, rfl, _, rfl, .inl ⟨t, rfl, _, rfl, .inl ⟨q, _, rfl, .inl (SqL.of g2), t, _, rfl, rfl, (by rw [List.length_map]; omega), ?_⟩⟩⟩
      refine .inl ⟨q, _, _, .int cs[j], rfl, rfl, SqL.of g2, by rw [List.length_map]; exact hat, ?_⟩
      generalize hcell : cs[j] = cell at hc0
      have fin : ∀ m : Int, 0 ≤ m % k ∧ m % k < k := fun m => ⟨Int.emod_nonneg _ (by omega), Int.emod_lt_of_pos _ k0⟩
      have tB : -(2 ^ 64) < t ∧ t < 2 ^ 64 := by omega
      unfold gName
      dsimp only
      refine st_seq ?_
      refine ifs_ans (decide (t < cs.length) && decide (10 ^ 18 ≤ cell)) (ans_and2 (fun Q' q' => ⟨_, rfl, _, rfl, .inl ⟨q, _, rfl, .inl (SqL.of g2), t, _, rfl, rfl, _, rfl, by rw [List.length_map]; exact q'⟩⟩) (fun Q' q' => ⟨_, rfl, 10, 18, rfl, rfl, ⟨by decide, by decide, by decide⟩, _, _, rfl, rfl, _, rfl, q'⟩)) (fun hb1 => ?_) (fun hb1 => ?_)
      · have kc : CDivW cell k := ⟨k0, kW.1.2⟩
        refine ⟨_, rfl, _, rfl, cell, k, rfl, rfl, kc, ?_⟩
        refine ⟨_, rfl, b, _, 2, 2, rfl, rfl, g1, rfl, _, rfl, .inl ⟨cell, rfl, _, rfl, cell, k, rfl, rfl, k0, ?_⟩⟩
        refine Qf _ (t + 1) (cell / k) _ (fin cell).1 (fin cell).2 (by omega) (by omega) (Int.ediv_nonneg hc0 (by omega)) ?_
        rw [upd_upd]; rfl
      · refine ⟨_, rfl, .inl ⟨cell, 17, rfl, rfl, _, _, rfl, rfl, .inr (by decide), ?_⟩⟩
        refine ⟨_, rfl, _, rfl, t, t, rfl, rfl, .inl tB, _, _, rfl, rfl, .inr (by decide), .inl ⟨_, _, rfl, rfl, ?_⟩⟩
        refine ⟨_, rfl, _, _, rfl, rfl, .inr (by decide), .inl ⟨_, _, rfl, rfl, .inl ⟨_, rfl, _, _, rfl, rfl, (by show (0 : Int) < 2147483647; decide), ?_⟩⟩⟩
        refine ⟨_, rfl, _, _, rfl, rfl, .inr (by decide), _, rfl, .inl ⟨t, 3, rfl, rfl, _, _, rfl, rfl, .inr (by decide), .inl ⟨_, _, rfl, rfl, .inl ⟨_, rfl, _, _, rfl, rfl, (by show (0 : Int) < 2147483399; decide), ?_⟩⟩⟩⟩
        refine ⟨_, rfl, _, _, rfl, rfl, ⟨by decide, by decide +kernel⟩, .inl ⟨_, rfl, _, rfl, _, _, rfl, rfl, k0, ?_⟩⟩
        exact Qf _ (t + 1) r0 _ (fin _).1 (fin _).2 (by omega) (by omega) h8 rfl
local macro_rules | `(tactic| walk_at "we1") => `(tactic| first
  | ((with_reducible refine' we_var ?hv ?_); (case hv => rfl))
  | (with_reducible refine we_int ?_)
  | (with_reducible refine we_str ?_)
  | (with_reducible refine we_bl ?_)
  | (with_reducible refine we_non ?_)
  | ((with_reducible refine' we_dix ?hv ?_); (case hv => rfl))
  | (with_reducible refine we_op ?_)
  | ((with_reducible refine' we_dget ?hv ?_); (case hv => rfl))
  | (with_reducible refine we_count ?_)
  | (with_reducible refine we_cb ?_)
  | (with_reducible refine we_call0 ?_)
  | (with_reducible refine we_tup ?_)
  | (with_reducible refine we_lst ?_)
  | (with_reducible refine we_if ?_)
  | (with_reducible refine we_not ?_)
  | (with_reducible refine we_and ?_)
  | (with_reducible refine we_or ?_)
  | (with_reducible refine we_isN ?_)
  | (with_reducible refine we_notN ?_)
  | (with_reducible refine we_sl ?_)
  | (with_reducible refine wa_cons ?_)
  | (with_reducible refine wa_nil ?_)
  | (with_reducible refine wt_test ?_)
  | (with_reducible refine wt_B ?_)
  | (with_reducible refine wt_and ?_)
  | (with_reducible refine wt_or ?_)
  | (with_reducible refine wt_not ?_)
  | (with_reducible refine wt_yes ?_)
  | (with_reducible refine wo_none ?_)
  | (with_reducible refine wo_some ?_)
  | ((with_reducible refine' r2_ix ?hx ?_); (case hx => rfl))
  | (with_reducible refine r2_isN ?_)
  | (with_reducible refine r2_notN ?_)
  | (with_reducible refine r2_lt ?_)
  | (with_reducible refine r2_le ?_)
  | (with_reducible refine r2_gt ?_)
  | (with_reducible refine r2_ge ?_)
  | (with_reducible refine r2_sub ?_)
  | (with_reducible refine r2_addI ?_)
  | (with_reducible refine r2_eqI ?_)
  | (with_reducible refine r2_neI ?_)
  | (with_reducible refine rc_int ?_)
  | (with_reducible refine rc_abs ?_)
  | ((with_reducible refine' rc_len ?hl ?_); (case hl => rfl))
  | (with_reducible refine wi_seq ?_)
  | (with_reducible refine wi_rng1 ?_)
  | (with_reducible refine wi_rng2 ?_)
  | (with_reducible refine wi_enum ?_)
  | (refine ⟨_, rfl, ?_⟩))
local macro_rules | `(tactic| walk_at "ws1") => `(tactic| first
  | (with_reducible refine ws_seq ?_)
  | (with_reducible refine ws_set ?_)
  | (with_reducible refine ws_ret ?_)
  | (with_reducible refine ws_if ?_)
  | (with_reducible refine ws_next ?_)
  | (with_reducible refine ws_asg ?_))
local macro_rules | `(tactic| walk_at "wg1") => `(tactic| first
  | (with_reducible refine wg_name (rw_name (by decide)) ?_)
  | (with_reducible refine wg_name (fun _ _ => trivial) ?_)
  | ((with_reducible refine' wg_tup ?hl ?_); (case hl => rfl))
  | (with_reducible refine wgs_cons rw_trans ?_)
  | (with_reducible refine wgs_nil rw_refl ?_)
  | (with_reducible refine wgs_cons (fun _ _ _ _ _ => trivial) ?_)
  | (with_reducible refine wgs_nil (fun _ => trivial) ?_))
local macro_rules | `(tactic| walk_at "go") => `(tactic| repeat' (first | walk_at "we1" | walk_at "wg1"))
def spBag (K : PySem.W.Frag) : Sp := fun vs H Q _ => ∃ (a : Addr) (ns : List Int), vs = [.ref a] ∧ SqL K H a (ns.map V.int) ∧ ns.length ≤ 63 ∧
  ∀ (b q : Addr) (cs : List Int) (H' : Hp), q ≠ b → H' b = some (.lst [.ref q, .int 0, .int 0]) → H' q = some (.lst (cs.map V.int)) → cs ≠ [] → (∀ c ∈ cs, 0 ≤ c) → cs.length ≤ 63 → Same H H' → Q (.ref b) H'
def absD : D → D
  | .int i => .int (if i < 0 then -i else i)
  | d => d
abbrev s_law_bag : Stmt := top 20
abbrev N_law_bag : List Str := ["script", "cell", "cells"]
theorem sc_law_bag : FnScope N_law_bag ["script"] (defScope s_law_bag) := ⟨rfl, rfl, rfl, by decide +kernel, rfl, by decide +kernel, by decide +kernel⟩

theorem ok_bag {f : Addr} {fd : FuncData} (F : Fun K "_law_bag" "_law_bag" s_law_bag f fd) (T : Txt mg) : FnOk P w K mg base CX0 1 f fd ["script"] (spBag K) := by
  refine F.ok sc_law_bag (fun vs H Q E h => ?_) (fun cdv A outer s H vs Q E hr h => ?_)
  · obtain ⟨a, ns, rfl, _⟩ := h
    rfl
  · obtain ⟨a, ns, rfl, hS, hlen, k⟩ := h
    refine ⟨_, (pss_cons (ps_setLc (i := 2) (own := [("cell", 1)]) (g := gName 1) (tt := tYes) rfl sc_law_bag.nd rfl rfl (sw_true rfl rfl rfl (by decide +kernel)) (x_seq K (pe_slice (x_sl K) (pv 0) po_none (po_some pe_int))) (blkOk_by (own := [("cell", 1)]) (N := N_law_bag) (sc := defScope s_law_bag) (by decide +kernel)) (fun _ _ _ _ _ => (pg_name (i := 1) sc_law_bag.nd rfl (Or.inl rfl))) (fun _ _ _ _ _ => pts_nil) (fun _ _ _ _ _ => (pe_callB call_absX (by rfl) T.b_abs (by decide +kernel) (pa_cons (pv 1) pa_nil))))
  (pss_cons (ps_if (pt_cmpR (x_eq K (by exact hr.units)) (pe_callB (x_len K) (by rfl) T.b_len (by decide +kernel) (pa_cons (pv 2) pa_nil)) pe_int (nomark _)) (pss_one (ps_set (i := 2) sc_law_bag.nd rfl (Or.inl rfl) (pe_lst (pa_cons pe_int pa_nil)))) pss_nil)
  (pss_one (ps_ret (pe_lst (pa_cons (pv 2) (pa_cons pe_int (pa_cons pe_int pa_nil)))))))), ?_⟩
    refine st_seq ?_
    refine' (?W1 : WS ⟨P, w, K, [], none, H⟩ _ [.val (.adr a), .un, .un] 0 { nx := fun n1 ρ1 => ∃ cs : List Int, ρ1 = [.val (.adr a), .un, .own (cs.map .int)] ∧ cs.length ≤ 63 ∧ ∀ c ∈ cs, 0 ≤ c, rt := fun _ _ => False }) (fun _ => none) [] _ H _ ?E1 ?A1
    case E1 =>
      exact { nd := List.nodup_nil, fresh := (fun l hl => nomatch hl), slots := ⟨[], .val (.adr a) (.un (.un .nil)), List.Sublist.refl _⟩, lst := (fun l hl => nomatch hl), bag := (fun b q e => nomatch e), base := Same.refl _,
              pers := (fun _ _ e => nomatch e), bO := (fun b q e => nomatch e), al := (fun o ho => nomatch ho) }
    case W1 =>
      refine ws_own (i := 2) (Nat.le_of_ble_eq_true rfl) (wf_map absD (fun _ => true) ?_)
      refine wi_seq (we_slA (a := a) (ns := ns) rfl hS rfl ?_)
      walk_at "go"
      obtain ⟨ys, e1, e2⟩ := cut_map D.int ns none (some 63)
      have hy := e2.length_le
      rw [e1]
      refine ⟨by rw [List.length_map]; omega, fun d hd m => ?_, ?_⟩
      · obtain ⟨y, hy, rfl⟩ := List.mem_map.mp hd
        walk_at "go"
        refine ⟨rfl, rfl, fun _ => ?_⟩
        walk_at "go"
        exact ⟨rfl, rfl⟩
      rw [filt_all]
      refine ⟨ys.map fun i => if i < 0 then -i else i, ?_, by rw [List.length_map]; omega, fun c hc => ?_⟩
      · rw [List.map_map, List.map_map]; rfl
      · obtain ⟨y, _, rfl⟩ := List.mem_map.mp hc
        by_cases q : y < 0
        · rw [if_pos q]; omega
        · rw [if_neg q]; omega
    refine { nx := fun L n H1 σ1 ρ1 E1 ⟨cs, e, h1, h2⟩ => ?_, rt := fun _ _ _ _ _ _ _ h => h.elim, bk := fun _ _ _ _ _ _ h => h.elim, ct := fun _ _ _ _ _ _ h => h.elim }
    subst e
    dsimp only
    refine st_seq ?_
    refine' (?W2 : WS ⟨P, w, K, [], none, H⟩ _ [.val (.adr a), .un, .own (cs.map .int)] n { nx := fun n1 ρ1 => ∃ cs : List Int, ρ1 = [.val (.adr a), .un, .own (cs.map .int)] ∧ cs.length ≤ 63 ∧ (∀ c ∈ cs, 0 ≤ c) ∧ cs ≠ [], rt := fun _ _ => False }) _ L σ1 H1 _ E1 ?A2
    case W2 =>
      refine ws_if (wt_look 2 rfl ?_)
      walk_at "go"
      refine dec2 (fun hz => ?_) (fun hz => ?_)
      · refine ws_own (i := 2) (Nat.le_of_ble_eq_true rfl) ?_
        refine wf_lst ?_
        walk_at "go"
        exact ⟨Nat.le_of_ble_eq_true rfl, [5], rfl, by decide, by decide, by decide⟩
      · walk_at "ws1"
        refine ⟨cs, rfl, h1, h2, fun q => ?_⟩
        subst q
        exact hz rfl
    refine { nx := fun L n H2 σ2 ρ2 E2 ⟨cs, e, h1, h2, h3⟩ => ?_, rt := fun _ _ _ _ _ _ _ h => h.elim, bk := fun _ _ _ _ _ _ h => h.elim, ct := fun _ _ _ _ _ _ h => h.elim }
    subst e
    obtain ⟨l, xs, g1, g2, g3, _⟩ := E2.own_at (i := 2) rfl
    have ex := g3.ints
    subst ex
    refine ⟨_, g1, Nat.le_of_ble_eq_true rfl, fun p hp => ?_⟩
    have sm : Same H (upd H2 p (.lst [.ref l, .int 0, .int 0])) := fun b o hb => by
      have z := (hid_some.mp (E2.base b o (hid_some.mpr ⟨List.not_mem_nil, hb⟩))).2
      rw [upd_ne (fun e : b = p => by rw [e, hp] at z; cases z)]
      exact z
    have npl : l ≠ p := fun e => by rw [← e, g2] at hp; cases hp
    exact k p l cs _ npl upd_same (by rw [upd_ne npl]; exact g2) h3 h2 h1 sm
/-! BadStream.__init__: the text is put together from a short text -/
abbrev s_BadStream___init : Stmt := inClass (top 2) 0
abbrev N_BadStream___init : List Str := ["self", "what", "__class__"]
theorem sc_BadStream___init : NScope N_BadStream___init ["self", "what"] ["__class__"] (defScope s_BadStream___init) := nscope_by (by decide +kernel)
theorem ok_xstream {f C c cc : Addr} {fd : FuncData} (F : FunS P K mg C "BadStream.__init__" "self" s_BadStream___init f c cc fd) (T : OexC K C) (n1 : PySem.W.findIn K (.ref C) "what" = some none) : FnOk P w K mg base CX0 1 f fd ["self", "what"] (spXS C ["what"]) := by
  have hS := F.supT (N := N_BadStream___init) (w := w) (base := base) (by decide +kernel) (by decide +kernel) (by decide +kernel) (by decide +kernel) rfl (by decide)
  obtain ⟨oc, od, dV, kV, doc, pm, an, ct, osl, rfl, lk, hcd⟩ := F.ex
  refine sup_fn lk (by rfl) hcd sc_BadStream___init (fun vs H Q E h => ?_) T hS (fun A outer s H vs Q E room h => ?_) (fun A outer s H E => ⟨_, rfl⟩) (fun A outer s H E => rfl) (fun A outer s H E => rfl) (fun A outer s H E => ⟨rfl, rfl⟩)
  · obtain ⟨⟨a, ws, rfl, hl, _⟩, _⟩ := h
    simpa using hl
  · obtain ⟨a, ys, rfl, ha, q⟩ := xs1_go T n1 (t := "bad stream: ") (by decide +kernel) h ([none] ++ List.replicate (N_BadStream___init.length - vs.length - 1) none) (rt := Q)
    exact ⟨a, ys, _, _, rfl, ha, pa_cons (pe_joined (.cons pe_str (.cons (pe_fmt (pv 1)) .nil))) pa_nil, pss_one (ps_ost (pv 0) (pv 1)), q⟩
end
end Toy
/-! K44m: the numbers of choices, packets of a stream, in plain Lean. -/
namespace Toy
open PySem L2 L3
def cho : Nat → Nat → Nat
  | _, 0 => 1
  | 0, _ + 1 => 0
  | n + 1, k + 1 => cho n k + cho n (k + 1)
theorem cho_zero (n : Nat) : cho n 0 = 1 := by cases n <;> rfl
theorem cho_succ (n k : Nat) : cho (n + 1) (k + 1) = cho n k + cho n (k + 1) := rfl
theorem cho_gt : ∀ {n k : Nat}, n < k → cho n k = 0
  | _, 0, h => absurd h (Nat.not_lt_zero _)
  | 0, _ + 1, _ => rfl
  | n + 1, k + 1, h => by rw [cho_succ, cho_gt (show n < k by omega), cho_gt (show n < k + 1 by omega)]
theorem cho_self : ∀ n, cho n n = 1
  | 0 => rfl
  | n + 1 => by rw [cho_succ, cho_self n, cho_gt (Nat.lt_succ_self n)]
theorem cho_abs : ∀ n k, (n + 1) * cho n k = cho (n + 1) (k + 1) * (k + 1)
  | 0, 0 => rfl
  | 0, k + 1 => by
    rw [cho_succ, show cho 0 (k + 1) = 0 from rfl, show cho 0 (k + 1 + 1) = 0 from rfl]
    simp
  | n + 1, 0 => by
    have ih := cho_abs n 0
    rw [cho_zero] at ih ⊢
    rw [cho_succ, cho_zero]
    omega
  | n + 1, k + 1 => by
    have i1 := cho_abs n k
    have i2 := cho_abs n (k + 1)
    have e1 : cho (n + 1 + 1) (k + 1 + 1) = cho (n + 1) (k + 1) + cho (n + 1) (k + 1 + 1) := rfl
    have e2 : cho (n + 1) (k + 1) = cho n k + cho n (k + 1) := rfl
    rw [e1]
    generalize cho (n + 1) (k + 1 + 1) = z at *
    generalize hy : cho (n + 1) (k + 1) = y at *
    have a1 : (n + 1 + 1) * y = (n + 1) * y + y := by rw [Nat.add_mul, Nat.one_mul]
    have a2 : (n + 1) * y = (n + 1) * cho n k + (n + 1) * cho n (k + 1) := by rw [e2, Nat.mul_add]
    have a3 : y * (k + 1 + 1) = y * (k + 1) + y := by rw [Nat.mul_add, Nat.mul_one]
    rw [a1, a2, i1, i2, Nat.add_mul, a3]
    omega
theorem cho_step (n k : Nat) (h : k ≤ n) : cho n k * (n - k) = cho n (k + 1) * (k + 1) := by
  have h1 := cho_abs n k
  rw [cho_succ, Nat.add_mul (cho n k)] at h1
  have h2 : cho n k * (n - k) + cho n k * (k + 1) = (n + 1) * cho n k := by
    rw [← Nat.mul_add, show n - k + (k + 1) = n + 1 by omega, Nat.mul_comm]
  exact Nat.add_right_cancel (h2.trans (h1.trans (Nat.add_comm _ _)))
theorem cho_le : ∀ n k, cho n k ≤ 2 ^ n
  | n, 0 => by rw [cho_zero]; exact Nat.one_le_two_pow
  | 0, k + 1 => Nat.zero_le _
  | n + 1, k + 1 => by
    have i1 := cho_le n k
    have i2 := cho_le n (k + 1)
    rw [cho_succ, Nat.pow_succ]
    omega
theorem cho_lt {n : Nat} (k : Nat) (h : n ≤ 90) : cho n k < 2 ^ 91 := Nat.lt_of_le_of_lt (cho_le n k) (Nat.lt_of_le_of_lt (Nat.pow_le_pow_right (by decide) h) (by decide +kernel))
theorem lg_lt {n k : Nat} (h : n < 2 ^ k) : n.log2 ≤ k := by
  by_cases e : n = 0
  · subst e; exact Nat.zero_le _
  · exact Nat.le_of_lt ((Nat.log2_lt e).mpr h)
theorem mulW {i j : Int} {a b : Nat} (h1 : i.natAbs < 2 ^ a) (h2 : j.natAbs < 2 ^ b) (h : a + b < 1000000) : CMulW i j := by
  exact Nat.lt_of_le_of_lt (Nat.add_le_add (lg_lt h1) (lg_lt h2)) h
theorem divW {i j : Int} (h : 0 < j) (h2 : j < 2 ^ 60) : CDivW i j := by
  have : j.natAbs < 2 ^ 60 := by omega
  have := lg_lt this
  exact ⟨h, by omega⟩
theorem cho_div {n i : Nat} (h : i ≤ n) : (((cho n i : Nat) : Int) * ((n : Int) - (i : Int))) / ((i : Int) + 1) = ((cho n (i + 1) : Nat) : Int) := by
  have h1 := cho_step n i h
  have e1 : ((n : Int) - (i : Int)) = ((n - i : Nat) : Int) := by omega
  have e2 : ((i : Int) + 1) = ((i + 1 : Nat) : Int) := by omega
  rw [e1, e2, ← Int.natCast_mul, h1, Int.natCast_mul]
  exact Int.mul_ediv_cancel _ (by omega)
/-! packets -/
def wtF (w1 p q e : Nat) : Int := (cho (w1 * p + q) (w1 * e) : Nat)
def atF (vs : List Int) (e : Nat) : Int := vs.getD e 0
def sumF (w1 : Nat) (vs : List Int) (p q : Nat) : Int := ((List.range (p + 1)).map fun e => wtF w1 p q e * atF vs e).sum
def pktF (w1 : Nat) (vs : List Int) (p : Nat) : List Int := atF vs p :: (List.range w1).map (sumF w1 vs p)
def encL (w1 : Nat) (vs : List Int) (m : Nat) : List D := (List.range m).map fun p => .tup ((pktF w1 vs p).map .int)
/-- all packets -/
def encD (w1 : Nat) (vs : List Int) : D := .tup (encL w1 vs vs.length)
theorem at_get {vs : List Int} {e : Nat} (h : e < vs.length) : vs[e]? = some (atF vs e) := by
  unfold atF
  rw [List.getD_eq_getElem?_getD, List.getElem?_eq_getElem h]; rfl
theorem at_take {vs : List Int} {e m : Nat} (h : e < m) : atF (vs.take m) e = atF vs e := by
  unfold atF
  rw [List.getD_eq_getElem?_getD, List.getD_eq_getElem?_getD, List.getElem?_take, if_pos h]
theorem pkt_take {w1 : Nat} {vs : List Int} {p m : Nat} (h : p < m) : pktF w1 (vs.take m) p = pktF w1 vs p := by
  unfold pktF sumF
  rw [at_take h]
  congr 1
  refine List.map_congr_left fun q _ => ?_
  congr 1
  refine List.map_congr_left fun e he => ?_
  rw [at_take (by have := List.mem_range.mp he; omega)]
/-- the packets of a beginning are the beginning of the packets -/
theorem enc_take {w1 : Nat} {vs : List Int} {m : Nat} (h : m ≤ vs.length) : encD w1 (vs.take m) = .tup ((encL w1 vs vs.length).take m) := by
  unfold encD encL
  rw [List.length_take, Nat.min_eq_left h, ← List.map_take, List.take_range, Nat.min_eq_left h]
  congr 1
  refine List.map_congr_left fun p hp => ?_
  rw [pkt_take (List.mem_range.mp hp)]
theorem wt_lt {w1 p q : Nat} (e : Nat) (h : w1 ≤ 3) (hp : p < 30) (hq : q < w1) : (wtF w1 p q e).natAbs < 2 ^ 91 := by
  unfold wtF
  rw [Int.natAbs_natCast]
  have h1 : w1 * p ≤ 3 * 29 := Nat.mul_le_mul h (by omega)
  exact cho_lt _ (by omega)
/-- what is refused of a width and values -/
def valsB (v : D) : Bool := isRowD v && decide ((rowOf v).length ≤ 30) && (rowOf v).all wholeD
def faultS (a v : D) : Option Str := if ftD a 1 4 = false then some "width" else if valsB v = false then some "values" else none
def xWhat (x : Str) : List (Str × D) := [("what", .str x)]
def intOf : D → Int
  | .int i => i
  | _ => 0
/-- the numbers are not too great -/
def Bnd (vs : List D) : Prop := ∀ i, D.int i ∈ vs → i.natAbs < 2 ^ 200
structure Val (v : D) : Prop where
  th : thg v = true
  n : (rowOf v).length ≤ 1000
  b : Bnd (rowOf v)
theorem vals_is {v : D} (h : valsB v = true) : ∃ (b : Bool) (vs : List Int), v = rowD b (vs.map .int) ∧ vs.length ≤ 30 := by
  unfold valsB at h
  rw [Bool.and_eq_true, Bool.and_eq_true, decide_eq_true_eq] at h
  obtain ⟨⟨h1, h2⟩, h3⟩ := h
  obtain ⟨b, xs, rfl⟩ := row_is h1
  rw [row_of] at h2 h3
  obtain ⟨vs, rfl⟩ := all_wh h3
  exact ⟨b, vs, rfl, by rw [List.length_map] at h2; exact h2⟩
theorem vals_of {b : Bool} {vs : List Int} : valsB (rowD b (vs.map .int)) = decide (vs.length ≤ 30) := by
  unfold valsB
  rw [row_isr, row_of, List.length_map]
  have : (vs.map D.int).all wholeD = true := List.all_eq_true.mpr fun x hx => by
    obtain ⟨k, _, rfl⟩ := List.mem_map.mp hx
    rfl
  rw [this]; simp
theorem int_map (vs : List Int) : (vs.map D.int).map intOf = vs := by
  rw [List.map_map]
  exact List.map_id _
theorem val_ints {b : Bool} {vs : List Int} (h1 : vs.length ≤ 1000) (h2 : ∀ i ∈ vs, i.natAbs < 2 ^ 200) : Val (rowD b (vs.map .int)) where
  th := thg_rowD (thg_ints vs)
  n := by rw [row_of, List.length_map]; exact h1
  b := fun i hi => by
    rw [row_of] at hi
    obtain ⟨k, hk, e⟩ := List.mem_map.mp hi
    cases e
    exact h2 _ hk
theorem ints_val {b : Bool} {vs : List Int} (h : Val (rowD b (vs.map .int))) : ∀ i ∈ vs, i.natAbs < 2 ^ 200 := fun i hi => h.b i (by rw [row_of]; exact List.mem_map.mpr ⟨i, hi, rfl⟩)
end Toy
namespace Toy
open PySem L2 L3
local macro_rules | `(tactic| walk_at "we1") => `(tactic| first
  | ((with_reducible refine' we_var ?hv ?_); (case hv => rfl))
  | (with_reducible refine we_int ?_)
  | (with_reducible refine we_str ?_)
  | (with_reducible refine we_bl ?_)
  | (with_reducible refine we_non ?_)
  | ((with_reducible refine' we_dix ?hv ?_); (case hv => rfl))
  | (with_reducible refine we_op ?_)
  | ((with_reducible refine' we_dget ?hv ?_); (case hv => rfl))
  | (with_reducible refine we_count ?_)
  | (with_reducible refine we_cb ?_)
  | (with_reducible refine we_call0 ?_)
  | (with_reducible refine we_tup ?_)
  | (with_reducible refine we_lst ?_)
  | (with_reducible refine we_if ?_)
  | (with_reducible refine we_not ?_)
  | (with_reducible refine we_and ?_)
  | (with_reducible refine we_or ?_)
  | (with_reducible refine we_isN ?_)
  | (with_reducible refine we_notN ?_)
  | (with_reducible refine we_sl ?_)
  | (with_reducible refine wa_cons ?_)
  | (with_reducible refine wa_nil ?_)
  | (with_reducible refine wt_test ?_)
  | (with_reducible refine wt_B ?_)
  | (with_reducible refine wt_and ?_)
  | (with_reducible refine wt_or ?_)
  | (with_reducible refine wt_not ?_)
  | (with_reducible refine wt_yes ?_)
  | (with_reducible refine wo_none ?_)
  | (with_reducible refine wo_some ?_)
  | ((with_reducible refine' r2_ix ?hx ?_); (case hx => rfl))
  | (with_reducible refine r2_isN ?_)
  | (with_reducible refine r2_notN ?_)
  | (with_reducible refine r2_lt ?_)
  | (with_reducible refine r2_le ?_)
  | (with_reducible refine r2_gt ?_)
  | (with_reducible refine r2_ge ?_)
  | (with_reducible refine r2_sub ?_)
  | (with_reducible refine r2_addI ?_)
  | (with_reducible refine r2_eqI ?_)
  | (with_reducible refine r2_neI ?_)
  | (with_reducible refine rc_int ?_)
  | (with_reducible refine rc_abs ?_)
  | ((with_reducible refine' rc_len ?hl ?_); (case hl => rfl))
  | (with_reducible refine wi_seq ?_)
  | (with_reducible refine wi_rng1 ?_)
  | (with_reducible refine wi_rng2 ?_)
  | (with_reducible refine wi_enum ?_)
  | (refine ⟨_, rfl, ?_⟩))
local macro_rules | `(tactic| walk_at "ws1") => `(tactic| first
  | (with_reducible refine ws_seq ?_)
  | (with_reducible refine ws_set ?_)
  | (with_reducible refine ws_ret ?_)
  | (with_reducible refine ws_if ?_)
  | (with_reducible refine ws_next ?_)
  | (with_reducible refine ws_asg ?_))
local macro_rules | `(tactic| walk_at "wg1") => `(tactic| first
  | (with_reducible refine wg_name (rw_name (by decide)) ?_)
  | (with_reducible refine wg_name (fun _ _ => trivial) ?_)
  | ((with_reducible refine' wg_tup ?hl ?_); (case hl => rfl))
  | (with_reducible refine wgs_cons rw_trans ?_)
  | (with_reducible refine wgs_nil rw_refl ?_)
  | (with_reducible refine wgs_cons (fun _ _ _ _ _ => trivial) ?_)
  | (with_reducible refine wgs_nil (fun _ => trivial) ?_))
local macro_rules | `(tactic| walk_at "go") => `(tactic| repeat' (first | walk_at "we1" | walk_at "wg1"))
section
variable {P : Program} {w : World} {K : PySem.W.Frag} {mg : Str → Option Value} {base : Heap}

structure Txt44 (mg : Str → Option Value) (kW kC : Tok) : Prop where
  b : Txt mg
  c_MOST_WIDTH : mg "MOST_WIDTH" = some (.int 4 kW)
  c_MOST_COUNT : mg "MOST_COUNT" = some (.int 30 kC)
/-! whole, a row, from to -/
def spWholeT : L3.Spec := fun bag n ds Φ => ∃ d : D, ds = [d] ∧ thg d = true ∧ Φ n (.bl (wholeD d))
abbrev s_is_whole : Stmt := top 4
abbrev N_is_whole : List Str := ["thing"]
theorem sc_is_whole : FnScope N_is_whole ["thing"] (defScope s_is_whole) := ⟨rfl, rfl, rfl, by decide +kernel, rfl, by decide +kernel, by decide +kernel⟩

theorem ok_wholeT {f : Addr} {fd : FuncData} (F : Fun K "is_whole" "is_whole" s_is_whole f fd) (T : Txt mg) : FnOk P w K mg base CX0 1 f fd ["thing"] (spD K spWholeT) := by
  refine fn_D F sc_is_whole (fun bag n ds Φ h => ?_) (fun cdv A outer s H E O bag n ds Φ hr h => ?_)
  · obtain ⟨d, e, _⟩ := h
    rw [e]; rfl
  · obtain ⟨d, e, ht, kk⟩ := h
    subst e
    refine ⟨_, (pss_one (ps_ret (pe_and (pe_callB (x_isi K) (by rfl) T.b_isinstance (by decide +kernel) (pa_cons (pv 0) (pa_cons (pe_bltn (v := .ty "int") (by rfl) T.b_int (by decide +kernel) rfl) pa_nil))) (pe_one (pe_not (pe_callB (x_isi K) (by rfl) T.b_isinstance (by decide +kernel) (pa_cons (pv 0) (pa_cons (pe_bltn (v := .ty "bool") (by rfl) T.b_bool (by decide +kernel) rfl) pa_nil)))))))), ?_⟩
    show WS _ _ [.val d] n _
    walk_at "ws1"
    walk_at "go"
    refine we_ty ?_
    walk_at "go"
    refine rc_isInt ht ?_
    refine ⟨_, rfl, ?_⟩
    have two : wholeD d = (isIntD d && !isBoolD d) := by cases d <;> rfl
    rw [two] at kk
    cases hi : isIntD d with
    | false =>
      rw [hi] at kk
      exact itF rfl kk
    | true =>
      rw [hi] at kk
      refine itT rfl ?_
      walk_at "go"
      refine we_ty ?_
      walk_at "go"
      refine rc_isBool ht ?_
      exact ⟨_, rfl, kk⟩
def spRowT : L3.Spec := fun bag n ds Φ => ∃ d : D, ds = [d] ∧ thg d = true ∧ Φ n (.bl (isRowD d))
abbrev s_is_row : Stmt := top 6
abbrev N_is_row : List Str := ["thing"]
theorem sc_is_row : FnScope N_is_row ["thing"] (defScope s_is_row) := ⟨rfl, rfl, rfl, by decide +kernel, rfl, by decide +kernel, by decide +kernel⟩

theorem ok_rowT {f : Addr} {fd : FuncData} (F : Fun K "is_row" "is_row" s_is_row f fd) (T : Txt mg) : FnOk P w K mg base CX0 1 f fd ["thing"] (spD K spRowT) := by
  refine fn_D F sc_is_row (fun bag n ds Φ h => ?_) (fun cdv A outer s H Ex O bag n ds Φ hr h => ?_)
  · obtain ⟨d, e, _⟩ := h
    rw [e]; rfl
  · obtain ⟨d, e, ht, kk⟩ := h
    subst e
    refine ⟨_, (pss_one (ps_ret (pe_callB (x_isi2 K) (by rfl) T.b_isinstance (by decide +kernel) (pa_cons (pv 0) (pa_cons (pe_tup (pa_cons (pe_bltn (v := .ty "list") (by rfl) T.b_list (by decide +kernel) rfl) (pa_cons (pe_bltn (v := .ty "tuple") (by rfl) T.b_tuple (by decide +kernel) rfl) pa_nil))) pa_nil))))), ?_⟩
    show WS _ _ [.val d] n _
    walk_at "ws1"
    refine we_cb (wa_cons ?_)
    walk_at "go"
    refine we_ty ?_
    walk_at "go"
    refine we_ty ?_
    walk_at "go"
    refine ⟨Nat.le_of_ble_eq_true rfl, ?_⟩
    walk_at "go"
    exact rc_isRow ht kk
def spFT : L3.Spec := fun bag n ds Φ => ∃ (d : D) (a b : Int), ds = [d, .int a, .int b] ∧ thg d = true ∧ Φ n (.bl (ftD d a b))
abbrev s_is_from_to : Stmt := top 8
abbrev N_is_from_to : List Str := ["thing", "least", "most"]
theorem sc_is_from_to : FnScope N_is_from_to ["thing", "least", "most"] (defScope s_is_from_to) := ⟨rfl, rfl, rfl, by decide +kernel, rfl, by decide +kernel, by decide +kernel⟩

theorem ok_ft {f : Addr} {fd : FuncData} (F : Fun K "is_from_to" "is_from_to" s_is_from_to f fd) (T : Txt mg) (D_is_whole : Dn P w K mg base "is_whole" 1 ["thing"] [] [] spWholeT) : FnOk P w K mg base CX0 2 f fd ["thing", "least", "most"] (spD K spFT) := by
  refine fn_D F sc_is_from_to (fun bag n ds Φ h => ?_) (fun cdv A outer s H E O bag n ds Φ hr h => ?_)
  · obtain ⟨d, a, b, e, _⟩ := h
    rw [e]; rfl
  · obtain ⟨d, a, b, e, ht, kk⟩ := h
    subst e
    refine ⟨_, (pss_one (ps_ret (pe_and (pe_call D_is_whole.G (hr.mono (by decide)) (by rfl) D_is_whole.m D_is_whole.k D_is_whole.b D_is_whole.v pass0 (pa_cons (pv 0) pa_nil)) (pe_and (pe_cmpR op_ge (pv 0) (pv 1) (nomark _)) (pe_one (pe_cmpR op_le (pv 0) (pv 2) (nomark _))))))), ?_⟩
    show WS _ _ [.val d, .val (.int a), .val (.int b)] n _
    walk_at "ws1"
    walk_at "go"
    refine ⟨ht, _, rfl, ?_⟩
    cases hw : wholeD d with
    | false =>
      have : ftD d a b = false := by
        cases d with
        | int i => cases hw
        | _ => rfl
      rw [this] at kk
      exact itF rfl kk
    | true =>
      obtain ⟨i, rfl⟩ := whole_is hw
      refine itT rfl ?_
      walk_at "go"
      refine dec2 (fun h1 => ?_) (fun h1 => ?_)
      · have : ftD (.int i) a b = decide (i ≤ b) := by
          show (decide (a ≤ i) && decide (i ≤ b)) = _
          rw [decide_eq_true h1, Bool.true_and]
        rw [this] at kk
        walk_at "go"
        exact kk
      · have : ftD (.int i) a b = false := by
          show (decide (a ≤ i) && decide (i ≤ b)) = _
          rw [decide_eq_false h1]; rfl
        rw [this] at kk
        exact kk
/-! checks -/
def spCW (CB : Addr) : L3.SpecX := fun bag n ds Φ Ξ => ∃ d : D, ds = [d] ∧ thg d = true ∧ (ftD d 1 4 = false → Ξ n CB (xWhat "width")) ∧ (ftD d 1 4 = true → Φ n .non)
abbrev s_check_width : Stmt := top 12
abbrev N_check_width : List Str := ["width"]
theorem sc_check_width : FnScope N_check_width ["width"] (defScope s_check_width) := ⟨rfl, rfl, rfl, by decide +kernel, rfl, by decide +kernel, by decide +kernel⟩

theorem ok_cw {f : Addr} {fd : FuncData} {kW kC : Tok} (F : Fun K "check_width" "check_width" s_check_width f fd) (T4 : Txt44 mg kW kC) (X_BadStream : XnS P w K mg base "BadStream" ["what"]) (D_is_from_to : Dn P w K mg base "is_from_to" 2 ["thing", "least", "most"] [] [] spFT) : FnOk P w K mg base (L2.CX P w) 3 f fd ["width"] (spDX K (spCW X_BadStream.C)) := by
  refine fn_DX F sc_check_width (fun bag n ds Φ Ξ h => ?_) (fun cdv A outer s H E O bag n ds Φ Ξ hr h hx => ?_)
  · obtain ⟨d, e, _⟩ := h
    rw [e]; rfl
  · obtain ⟨d, e, ht, k1, k2⟩ := h
    subst e
    have T := T4.b
    refine ⟨_, (pss_one (ps_if (pt_not (pt_val (pe_call D_is_from_to.G (hr.mono (by decide)) (by rfl) D_is_from_to.m D_is_from_to.k D_is_from_to.b D_is_from_to.v pass0 (pa_cons (pv 0) (pa_cons pe_int (pa_cons (pe_glob (v := (.int _)) (by rfl) T4.c_MOST_WIDTH ⟨_, rfl⟩) pa_nil)))))) (pss_one (ps_raise rfl (takes_of rfl rfl rfl rfl) (pmk_oex X_BadStream.T X_BadStream.iC X_BadStream.tI X_BadStream.G (hr.mono (by decide)) X_BadStream.b .nil pass0 (by rfl) X_BadStream.m (pa_cons pe_str pa_nil)))) pss_nil)), ?_⟩
    show WS _ _ [.val d] n _
    walk_at "ws1"
    walk_at "go"
    refine ⟨d, 1, 4, rfl, ht, ?_⟩
    walk_at "go"
    cases hf : ftD d 1 4 with
    | false =>
      refine itT rfl ?_
      refine ws_raiseS hx ?_
      walk_at "go"
      exact ⟨rfl, by decide, (fun d hd => ⟨_, List.mem_singleton.mp hd, by decide +kernel⟩), k1 hf⟩
    | true =>
      refine itF rfl ?_
      walk_at "ws1"
      exact k2 hf
def spCV (CB : Addr) : L3.SpecX := fun bag n ds Φ Ξ => ∃ d : D, ds = [d] ∧ Val d ∧ (valsB d = false → Ξ n CB (xWhat "values")) ∧ (valsB d = true → Φ n .non)
abbrev s_check_values : Stmt := top 13
abbrev N_check_values : List Str := ["values", "value"]
theorem sc_check_values : FnScope N_check_values ["values"] (defScope s_check_values) := ⟨rfl, rfl, rfl, by decide +kernel, rfl, by decide +kernel, by decide +kernel⟩

theorem ok_cv {f : Addr} {fd : FuncData} {kW kC : Tok} (F : Fun K "check_values" "check_values" s_check_values f fd) (T4 : Txt44 mg kW kC) (X_BadStream : XnS P w K mg base "BadStream" ["what"]) (D_is_row : Dn P w K mg base "is_row" 1 ["thing"] [] [] spRowT) (D_is_whole : Dn P w K mg base "is_whole" 1 ["thing"] [] [] spWholeT) : FnOk P w K mg base (L2.CX P w) 3 f fd ["values"] (spDX K (spCV X_BadStream.C)) := by
  refine fn_DX F sc_check_values (fun bag n ds Φ Ξ h => ?_) (fun cdv A outer s H E O bag n ds Φ Ξ hr h hx => ?_)
  · obtain ⟨d, e, _⟩ := h
    rw [e]; rfl
  · obtain ⟨d, e, hv, k1, k2⟩ := h
    subst e
    have T := T4.b
    refine ⟨_, (pss_one (ps_if (PW.pt (pw_or (pt_not (pt_val (pe_call D_is_row.G (hr.mono (by decide)) (by rfl) D_is_row.m D_is_row.k D_is_row.b D_is_row.v pass0 (pa_cons (pv 0) pa_nil)))) (pw_or (pt_cmpR op_gt (pe_callB (x_len K) (by rfl) T.b_len (by decide +kernel) (pa_cons (pv 0) pa_nil)) (pe_glob (v := (.int _)) (by rfl) T4.c_MOST_COUNT ⟨_, rfl⟩) (nomark _)) (pw_or1 (pt_not (pt_val (pe_callB (x_all K) (by rfl) T.b_all (by decide +kernel) (pa_cons (pe_lc (own := [("value", 1)]) (g := gName 1) (tt := tYes) rfl sc_check_values.nd (x_seq K (pv 0)) (blkOk_by (own := [("value", 1)]) (N := N_check_values) (sc := defScope s_check_values) (by decide +kernel)) (fun _ _ _ _ _ => (pg_name (i := 1) sc_check_values.nd rfl (Or.inl rfl))) (fun _ _ _ _ _ => pts_nil) (fun _ _ _ _ _ => (pe_call D_is_whole.G (hr.mono (by decide)) (by rfl) D_is_whole.m D_is_whole.k D_is_whole.b D_is_whole.v pass0 (pa_cons (pv 1) pa_nil)))) pa_nil)))))))) (pss_one (ps_raise rfl (takes_of rfl rfl rfl rfl) (pmk_oex X_BadStream.T X_BadStream.iC X_BadStream.tI X_BadStream.G (hr.mono (by decide)) X_BadStream.b .nil pass0 (by rfl) X_BadStream.m (pa_cons pe_str pa_nil)))) pss_nil)), ?_⟩
    show WS _ _ [.val d, .un] n _
    walk_at "ws1"
    walk_at "go"
    refine ⟨hv.th, ?_⟩
    walk_at "go"
    cases hr0 : isRowD d with
    | false =>
      refine itT rfl (itT rfl ?_)
      refine ws_raiseS hx ?_
      walk_at "go"
      exact ⟨rfl, by decide, (fun d hd => ⟨_, List.mem_singleton.mp hd, by decide +kernel⟩), k1 (by unfold valsB; rw [hr0]; rfl)⟩
    | true =>
    obtain ⟨b, xs, rfl⟩ := row_is hr0
    have hn := hv.n
    rw [row_of] at hn
    refine itF rfl ?_
    walk_at "go"
    refine rc_len (row_len b xs) ?_
    walk_at "go"
    refine dec2 (fun h3 => ?_) (fun h3 => ?_)
    · refine itT rfl ?_
      refine ws_raiseS hx ?_
      walk_at "go"
      exact ⟨rfl, by decide, (fun d hd => ⟨_, List.mem_singleton.mp hd, by decide +kernel⟩), k1 (by unfold valsB; rw [row_isr, row_of, decide_eq_false (by omega : ¬ xs.length ≤ 30)]; rfl)⟩
    refine wt_not (wt_test (we_cb (wa_cons (wf_we (wf_map (fun d => .bl (wholeD d)) (fun _ => true) (wi_seq ?_))))))
    walk_at "go"
    refine ⟨_, row_seq b xs, by omega, fun d hd m => ?_, ?_⟩
    · walk_at "go"
      refine ⟨rfl, rfl, fun _ => ?_⟩
      walk_at "go"
      exact ⟨thgAll_mem (thg_row hv.th) hd, rfl, rfl⟩
    rw [filt_all]
    refine wa_nil ?_
    have e1 : (xs.map fun d => D.bl (wholeD d)) = (xs.map wholeD).map D.bl := by rw [List.map_map]; rfl
    rw [e1]
    refine rc_all ?_
    rw [List.all_map]
    refine ⟨_, rfl, ?_⟩
    have hB : valsB (rowD b xs) = xs.all (id ∘ wholeD) := by
      unfold valsB
      rw [row_isr, row_of, decide_eq_true (by omega : xs.length ≤ 30)]; rfl
    cases hA : xs.all (id ∘ wholeD) with
    | false =>
      refine itT rfl ?_
      refine ws_raiseS hx ?_
      walk_at "go"
      exact ⟨rfl, by decide, (fun d hd => ⟨_, List.mem_singleton.mp hd, by decide +kernel⟩), k1 (hB.trans hA)⟩
    | true =>
      refine itF rfl ?_
      walk_at "ws1"
      exact k2 (hB.trans hA)
/-! numbers of choices -/
def spCho : L3.Spec := fun bag n ds Φ => ∃ a k : Nat, ds = [.int (a : Int), .int (k : Int)] ∧ a ≤ 90 ∧ k ≤ 90 ∧ Φ n (.int ((cho a k : Nat) : Int))
abbrev s_choices : Stmt := top 14
abbrev N_choices : List Str := ["n", "k", "found", "step"]
theorem sc_choices : FnScope N_choices ["n", "k"] (defScope s_choices) := ⟨rfl, rfl, rfl, by decide +kernel, rfl, by decide +kernel, by decide +kernel⟩

theorem ok_cho {f : Addr} {fd : FuncData} (F : Fun K "choices" "choices" s_choices f fd) (T : Txt mg) : FnOk P w K mg base CX0 1 f fd ["n", "k"] (spD K spCho) := by
  refine fn_D F sc_choices (fun bag n ds Φ h => ?_) (fun cdv A outer s H E O bag n ds Φ hr h => ?_)
  · obtain ⟨a, k, e, _⟩ := h
    rw [e]; rfl
  · obtain ⟨a, k, e, ha, hk, kk⟩ := h
    subst e
    refine ⟨_, (pss_cons (ps_if (pt_cmpR op_gt (pv 1) (pv 0) (nomark _)) (pss_one (ps_ret pe_int)) pss_nil)
  (pss_cons (ps_set (i := 2) sc_choices.nd rfl (Or.inl rfl) pe_int)
  (pss_cons (ps_for PassesOwn.never rfl (pi_range1 (by rfl) T.b_range (pa_cons (pv 1) pa_nil)) (pg_name (i := 3) sc_choices.nd rfl (Or.inl rfl)) (pss_one (ps_set (i := 2) sc_choices.nd rfl (Or.inl rfl) (pe_op op_fdivW (pe_op op_mulW (pv 2) (pe_op op_sub (pv 0) (pv 3))) (pe_op (x_add K) (pv 3) pe_int)))))
  (pss_one (ps_ret (pv 2)))))), ?_⟩
    show WS _ _ [.val (.int (a : Int)), .val (.int (k : Int)), .un, .un] n _
    refine ws_cut2 (Nx := fun n1 ρ1 => n1 = n ∧ k ≤ a ∧ ρ1 = [.val (.int (a : Int)), .val (.int (k : Int)), .un, .un]) ?_ ?_
    · walk_at "ws1"
      walk_at "go"
      refine dec2 (fun h3 => ?_) (fun h3 => ?_)
      · rw [cho_gt (show a < k by omega)] at kk
        walk_at "ws1"
        walk_at "go"
        exact kk
      · walk_at "ws1"
        exact ⟨rfl, by omega, rfl⟩
    rintro n1 ρ1 ⟨rfl, hka, rfl⟩
    walk_at "ws1"
    walk_at "ws1"
    walk_at "go"
    refine ws_seq (ws_for ?_)
    walk_at "go"
    refine ⟨by omega, by omega, ?_⟩
    have e0 : ((k : Nat) : Int).toNat = k := by omega
    rw [e0]
    refine ⟨fun i m ρ => m = n1 ∧ ∃ x, ρ = [.val (.int (a : Int)), .val (.int (k : Int)), .val (.int ((cho a i : Nat) : Int)), x], ⟨rfl, .un, by rw [cho_zero]; rfl⟩, ?_, ?_⟩
    · rintro i m ρ1 d hd ⟨rfl, x, rfl⟩
      obtain ⟨hi, rfl⟩ := rangeD_get hd
      have e1 : (0 : Int) + (i : Int) = (i : Int) := by omega
      rw [e1]
      walk_at "wg1"
      refine ws_set ?_
      walk_at "go"
      refine r2_mulW (mulW (a := 91) (b := 91) (by rw [Int.natAbs_natCast]; exact cho_lt i ha) (by omega) (by decide)) ?_
      walk_at "go"
      refine r2_fdivW (divW (by omega) (by omega)) ?_
      have e := cho_div (show i ≤ a by omega)
      exact ⟨rfl, .val (.int (i : Int)), by rw [← e]; rfl⟩
    · rintro m ρ1 ⟨rfl, x, rfl⟩
      rw [rangeD_len]
      walk_at "ws1"
      walk_at "go"
      exact kk
def wtsD (w1 p q : Nat) : D := .lst ((List.range (p + 1)).map fun e => .int (wtF w1 p q e))
def spWts : L3.Spec := fun bag n ds Φ => ∃ w1 p q : Nat, ds = [.int ((w1 : Int) + 1), .int (p : Int), .int (q : Int)] ∧ w1 ≤ 3 ∧ p < 30 ∧ q < w1 ∧ Φ n (wtsD w1 p q)
theorem row_le {w1 p q : Nat} (h : w1 ≤ 3) (hp : p < 30) (hq : q < w1) : w1 * p + q ≤ 89 := by
  have := Nat.mul_le_mul h (show p ≤ 29 by omega)
  omega
abbrev s_weights_of : Stmt := top 15
abbrev N_weights_of : List Str := ["width", "place", "which", "row", "elder"]
theorem sc_weights_of : FnScope N_weights_of ["width", "place", "which"] (defScope s_weights_of) := ⟨rfl, rfl, rfl, by decide +kernel, rfl, by decide +kernel, by decide +kernel⟩

theorem ok_wts {f : Addr} {fd : FuncData} (F : Fun K "weights_of" "weights_of" s_weights_of f fd) (T : Txt mg) (D_choices : Dn P w K mg base "choices" 1 ["n", "k"] [] [] spCho) : FnOk P w K mg base CX0 2 f fd ["width", "place", "which"] (spD K spWts) := by
  refine fn_D F sc_weights_of (fun bag n ds Φ h => ?_) (fun cdv A outer s H E O bag n ds Φ hr h => ?_)
  · obtain ⟨w1, p, q, e, _⟩ := h
    rw [e]; rfl
  · obtain ⟨w1, p, q, e, h1, hp, hq, kk⟩ := h
    subst e
    have hrow := row_le h1 hp hq
    refine ⟨_, (pss_cons (ps_set (i := 3) sc_weights_of.nd rfl (Or.inr rfl) (pe_op (x_add K) (pe_op op_mulW (pe_op op_sub (pv 0) pe_int) (pv 1)) (pv 2)))
  (pss_one (ps_ret (pe_lc (own := [("elder", 4)]) (g := gName 4) (tt := tYes) rfl sc_weights_of.nd (pi_range1 (by rfl) T.b_range (pa_cons (pe_op (x_add K) (pv 1) pe_int) pa_nil)) (blkOk_by (own := [("elder", 4)]) (N := N_weights_of) (sc := defScope s_weights_of) (by decide +kernel)) (fun _ _ _ _ _ => (pg_name (i := 4) sc_weights_of.nd rfl (Or.inl rfl))) (fun _ _ _ _ _ => pts_nil) (fun _ _ _ _ _ => (pe_call D_choices.G (hr.mono (by decide)) (by rfl) D_choices.m D_choices.k D_choices.b D_choices.v pass0 (pa_cons (pv 3) (pa_cons (pe_op op_mulW (pe_op op_sub (pv 0) pe_int) (pv 4)) pa_nil)))))))), ?_⟩
    show WS _ _ [.val (.int ((w1 : Int) + 1)), .val (.int (p : Int)), .val (.int (q : Int)), .un, .un] n _
    refine ws_cut (fun n1 ρ1 => n1 = n ∧ ρ1 = [.val (.int ((w1 : Int) + 1)), .val (.int (p : Int)), .val (.int (q : Int)), .val (.int ((w1 * p + q : Nat) : Int)), .un]) ?_ ?_
    · walk_at "ws1"
      walk_at "go"
      refine r2_mulW (mulW (a := 60) (b := 60) (by omega) (by omega) (by decide)) ?_
      walk_at "go"
      refine ⟨rfl, ?_⟩
      have e : ((w1 : Int) + 1 - 1) * (p : Int) + (q : Int) = ((w1 * p + q : Nat) : Int) := by
        rw [show (w1 : Int) + 1 - 1 = (w1 : Int) by omega]
        push_cast
        rfl
      rw [e]; rfl
    rintro n1 ρ1 ⟨rfl, rfl⟩
    walk_at "ws1"
    refine wf_we (wf_map (fun d => .int (wtF w1 p q (intOf d).toNat)) (fun _ => true) ?_)
    walk_at "go"
    refine ⟨by omega, by omega, ?_⟩
    have e0 : ((p : Int) + 1).toNat = p + 1 := by omega
    rw [e0, rangeD_len]
    refine ⟨by omega, fun d hd m => ?_, ?_⟩
    · obtain ⟨i, hd⟩ := List.getElem?_of_mem hd
      obtain ⟨hi, rfl⟩ := rangeD_get hd
      have e1 : (0 : Int) + (i : Int) = (i : Int) := by omega
      rw [e1]
      walk_at "go"
      refine ⟨rfl, rfl, fun _ => ?_⟩
      walk_at "go"
      refine r2_mulW (mulW (a := 60) (b := 60) (by omega) (by omega) (by decide)) ?_
      refine wa_nil ⟨w1 * p + q, w1 * i, ?_, by omega, ?_, rfl, ?_⟩
      · rw [show (w1 : Int) + 1 - 1 = (w1 : Int) by omega, ← Int.natCast_mul]
      · have := Nat.mul_le_mul h1 (show i ≤ 29 by omega)
        omega
      · rfl
    rw [filt_all]
    have e2 : (rangeD 0 (p + 1)).map (fun d => D.int (wtF w1 p q (intOf d).toNat)) = (List.range (p + 1)).map fun e => .int (wtF w1 p q e) := by
      unfold rangeD
      rw [List.map_map]
      refine List.map_congr_left fun e _ => ?_
      show D.int (wtF w1 p q ((0 : Int) + (e : Int)).toNat) = _
      rw [show ((0 : Int) + (e : Int)).toNat = e by omega]
    rw [e2]
    exact kk

end
end Toy
namespace Toy
open PySem L2 L3
local macro_rules | `(tactic| walk_at "we1") => `(tactic| first
  | ((with_reducible refine' we_var ?hv ?_); (case hv => rfl))
  | (with_reducible refine we_int ?_)
  | (with_reducible refine we_str ?_)
  | (with_reducible refine we_bl ?_)
  | (with_reducible refine we_non ?_)
  | ((with_reducible refine' we_dix ?hv ?_); (case hv => rfl))
  | (with_reducible refine we_op ?_)
  | ((with_reducible refine' we_dget ?hv ?_); (case hv => rfl))
  | (with_reducible refine we_count ?_)
  | (with_reducible refine we_cb ?_)
  | (with_reducible refine we_call0 ?_)
  | (with_reducible refine we_tup ?_)
  | (with_reducible refine we_lst ?_)
  | (with_reducible refine we_if ?_)
  | (with_reducible refine we_not ?_)
  | (with_reducible refine we_and ?_)
  | (with_reducible refine we_or ?_)
  | (with_reducible refine we_isN ?_)
  | (with_reducible refine we_notN ?_)
  | (with_reducible refine we_sl ?_)
  | (with_reducible refine wa_cons ?_)
  | (with_reducible refine wa_nil ?_)
  | (with_reducible refine wt_test ?_)
  | (with_reducible refine wt_B ?_)
  | (with_reducible refine wt_and ?_)
  | (with_reducible refine wt_or ?_)
  | (with_reducible refine wt_not ?_)
  | (with_reducible refine wt_yes ?_)
  | (with_reducible refine wo_none ?_)
  | (with_reducible refine wo_some ?_)
  | ((with_reducible refine' r2_ix ?hx ?_); (case hx => rfl))
  | (with_reducible refine r2_isN ?_)
  | (with_reducible refine r2_notN ?_)
  | (with_reducible refine r2_lt ?_)
  | (with_reducible refine r2_le ?_)
  | (with_reducible refine r2_gt ?_)
  | (with_reducible refine r2_ge ?_)
  | (with_reducible refine r2_sub ?_)
  | (with_reducible refine r2_addI ?_)
  | (with_reducible refine r2_eqI ?_)
  | (with_reducible refine r2_neI ?_)
  | (with_reducible refine rc_int ?_)
  | (with_reducible refine rc_abs ?_)
  | ((with_reducible refine' rc_len ?hl ?_); (case hl => rfl))
  | (with_reducible refine wi_seq ?_)
  | (with_reducible refine wi_rng1 ?_)
  | (with_reducible refine wi_rng2 ?_)
  | (with_reducible refine wi_enum ?_)
  | (refine ⟨_, rfl, ?_⟩))
local macro_rules | `(tactic| walk_at "ws1") => `(tactic| first
  | (with_reducible refine ws_seq ?_)
  | (with_reducible refine ws_set ?_)
  | (with_reducible refine ws_ret ?_)
  | (with_reducible refine ws_if ?_)
  | (with_reducible refine ws_next ?_)
  | (with_reducible refine ws_asg ?_))
local macro_rules | `(tactic| walk_at "wg1") => `(tactic| first
  | (with_reducible refine wg_name (rw_name (by decide)) ?_)
  | (with_reducible refine wg_name (fun _ _ => trivial) ?_)
  | ((with_reducible refine' wg_tup ?hl ?_); (case hl => rfl))
  | (with_reducible refine wgs_cons rw_trans ?_)
  | (with_reducible refine wgs_nil rw_refl ?_)
  | (with_reducible refine wgs_cons (fun _ _ _ _ _ => trivial) ?_)
  | (with_reducible refine wgs_nil (fun _ => trivial) ?_))
local macro_rules | `(tactic| walk_at "go") => `(tactic| repeat' (first | walk_at "we1" | walk_at "wg1"))
section
variable {P : Program} {w : World} {K : PySem.W.Frag} {mg : Str → Option Value} {base : Heap}

/-! a packet -/
def spPkt : L3.Spec := fun bag n ds Φ => ∃ (w1 p : Nat) (b : Bool) (vs : List Int), ds = [.int ((w1 : Int) + 1), rowD b (vs.map .int), .int (p : Int)] ∧ w1 ≤ 3 ∧ p < vs.length ∧ vs.length ≤ 30 ∧ (∀ i ∈ vs, i.natAbs < 2 ^ 200) ∧ Φ n (.tup ((pktF w1 vs p).map .int))
def pkL (w1 : Nat) (vs : List Int) (p i : Nat) : List D := (atF vs p :: (List.range i).map (sumF w1 vs p)).map .int
theorem pkL_snoc (w1 : Nat) (vs : List Int) (p i : Nat) : pkL w1 vs p i ++ [.int (sumF w1 vs p i)] = pkL w1 vs p (i + 1) := by
  unfold pkL
  rw [List.range_succ, List.map_append, List.map_cons, List.map_cons, List.map_append]; rfl
theorem at_bnd {vs : List Int} (h : ∀ i ∈ vs, i.natAbs < 2 ^ 200) (e : Nat) : (atF vs e).natAbs < 2 ^ 200 := by
  unfold atF
  rw [List.getD_eq_getElem?_getD]
  by_cases he : e < vs.length
  · rw [List.getElem?_eq_getElem he]; exact h _ (List.getElem_mem he)
  · rw [List.getElem?_eq_none (by omega)]; decide +kernel
abbrev s_packet_at : Stmt := top 16
abbrev N_packet_at : List Str := ["width", "values", "place", "packet", "which", "weights", "elder"]
theorem sc_packet_at : FnScope N_packet_at ["width", "values", "place"] (defScope s_packet_at) := ⟨rfl, rfl, rfl, by decide +kernel, rfl, by decide +kernel, by decide +kernel⟩

theorem ok_pkt {f : Addr} {fd : FuncData} (F : Fun K "packet_at" "packet_at" s_packet_at f fd) (T : Txt mg) (D_weights_of : Dn P w K mg base "weights_of" 2 ["width", "place", "which"] [] [] spWts) : FnOk P w K mg base CX0 3 f fd ["width", "values", "place"] (spD K spPkt) := by
  refine fn_D F sc_packet_at (fun bag n ds Φ h => ?_) (fun cdv A outer s H E O bag n ds Φ hr h => ?_)
  · obtain ⟨w1, p, b, vs, e, _⟩ := h
    rw [e]; rfl
  · obtain ⟨w1, p, b, vs, e, h1, hp, hl, hb, kk⟩ := h
    subst e
    refine ⟨_, (pss_cons (ps_set (i := 3) sc_packet_at.nd rfl (Or.inl rfl) (pe_lst (pa_cons (pe_ix (x_ix K) (pv 1) (pv 2) (fun _ _ => rfl)) pa_nil)))
  (pss_cons (ps_for PassesOwn.never rfl (pi_range1 (by rfl) T.b_range (pa_cons (pe_op op_sub (pv 0) pe_int) pa_nil)) (pg_name (i := 4) sc_packet_at.nd rfl (Or.inl rfl)) (pss_cons (ps_set (i := 5) sc_packet_at.nd rfl (Or.inr rfl) (pe_call D_weights_of.G (hr.mono (by decide)) (by rfl) D_weights_of.m D_weights_of.k D_weights_of.b D_weights_of.v pass0 (pa_cons (pv 0) (pa_cons (pv 2) (pa_cons (pv 4) pa_nil)))))
  (pss_one (ps_expr (pe_bm PySem.F.plainAttrs_list PySem.F.slot_list_append PySem.F.type_list_append mt_append (pv 3) (pa_cons (pe_callB (x_sum K) (by rfl) T.b_sum (by decide +kernel) (pa_cons (pe_lc (own := [("elder", 6)]) (g := gName 6) (tt := tYes) rfl sc_packet_at.nd (pi_range1 (by rfl) T.b_range (pa_cons (pe_op (x_add K) (pv 2) pe_int) pa_nil)) (blkOk_by (own := [("elder", 6)]) (N := N_packet_at) (sc := defScope s_packet_at) (by decide +kernel)) (fun _ _ _ _ _ => (pg_name (i := 6) sc_packet_at.nd rfl (Or.inl rfl))) (fun _ _ _ _ _ => pts_nil) (fun _ _ _ _ _ => (pe_op op_mulW (pe_ix (x_ix K) (pv 5) (pv 6) (fun _ _ => rfl)) (pe_ix (x_ix K) (pv 1) (pv 6) (fun _ _ => rfl))))) pa_nil)) pa_nil))))))
  (pss_one (ps_ret (pe_callTy (x_tup K) (by rfl) T.b_tuple (by decide +kernel) (pa_cons (pv 3) pa_nil)))))), ?_⟩
    show WS _ _ [.val (.int ((w1 : Int) + 1)), .val (rowD b (vs.map .int)), .val (.int (p : Int)), .un, .un, .un, .un] n _
    refine ws_seq (ws_own (i := 3) (Nat.le_of_ble_eq_true rfl) (wf_lst (wa_cons ?_)))
    walk_at "go"
    refine r2_ix (row_ix (j := p) (d := .int (atF vs p)) (by rw [List.getElem?_map, at_get hp]; rfl)) ?_
    refine wa_nil ⟨Nat.le_of_ble_eq_true rfl, ?_⟩
    refine ws_seq (ws_for ?_)
    walk_at "go"
    refine ⟨by omega, by omega, ?_⟩
    have e0 : ((w1 : Int) + 1 - 1).toNat = w1 := by omega
    rw [e0]
    refine ⟨fun i m ρ => m = n ∧ ∃ x4 x5 x6, ρ = [.val (.int ((w1 : Int) + 1)), .val (rowD b (vs.map .int)), .val (.int (p : Int)), .own (pkL w1 vs p i), x4, x5, x6], ⟨rfl, .un, .un, .un, rfl⟩, ?_, ?_⟩
    · rintro i m ρ1 d hd ⟨rfl, x4, x5, x6, rfl⟩
      obtain ⟨hi, rfl⟩ := rangeD_get hd
      have e1 : (0 : Int) + (i : Int) = (i : Int) := by omega
      rw [e1]
      walk_at "wg1"
      refine ws_cut (fun n1 ρ1 => n1 = m ∧ ρ1 = [.val (.int ((w1 : Int) + 1)), .val (rowD b (vs.map .int)), .val (.int (p : Int)), .own (pkL w1 vs p i), .val (.int (i : Int)), .val (wtsD w1 p i), x6]) ?_ ?_
      · walk_at "ws1"
        walk_at "go"
        exact ⟨w1, p, i, rfl, h1, by omega, hi, rfl, rfl⟩
      rintro n1 ρ1 ⟨rfl, rfl⟩
      refine ws_append (i := 3) rfl (we_cb (wa_cons (wf_we (wf_map (fun d => .int (wtF w1 p i (intOf d).toNat * atF vs (intOf d).toNat)) (fun _ => true) ?_))))
      walk_at "go"
      refine ⟨by omega, by omega, ?_⟩
      have e2 : ((p : Int) + 1).toNat = p + 1 := by omega
      rw [e2, rangeD_len]
      refine ⟨by omega, fun d hd m => ?_, ?_⟩
      · obtain ⟨j, hd⟩ := List.getElem?_of_mem hd
        obtain ⟨hj, rfl⟩ := rangeD_get hd
        have e3 : (0 : Int) + (j : Int) = (j : Int) := by omega
        rw [e3]
        walk_at "go"
        refine ⟨rfl, rfl, fun _ => ?_⟩
        walk_at "go"
        refine r2_ix (f := .int (wtF w1 p i j)) (ixD_nat (by rw [List.getElem?_map, List.getElem?_range hj]; rfl)) ?_
        walk_at "go"
        refine r2_ix (row_ix (j := j) (d := .int (atF vs j)) (by rw [List.getElem?_map, at_get (by omega)]; rfl)) ?_
        refine r2_mulW (mulW (a := 91) (b := 200) (wt_lt j h1 (by omega) hi) (at_bnd hb j) (by decide)) ?_
        exact ⟨rfl, rfl⟩
      rw [filt_all]
      have e4 : (rangeD 0 (p + 1)).map (fun d => D.int (wtF w1 p i (intOf d).toNat * atF vs (intOf d).toNat)) = ((List.range (p + 1)).map fun e => wtF w1 p i e * atF vs e).map .int := by
        unfold rangeD
        rw [List.map_map, List.map_map]
        refine List.map_congr_left fun e _ => ?_
        show D.int (wtF w1 p i ((0 : Int) + (e : Int)).toNat * atF vs ((0 : Int) + (e : Int)).toNat) = _
        rw [show ((0 : Int) + (e : Int)).toNat = e by omega]; rfl
      rw [e4]
      refine wa_nil (rc_sum ?_)
      refine ⟨by unfold pkL; rw [List.length_map, List.length_cons, List.length_map, List.length_range, sizeLine_eq]; omega, rfl, .val (.int (i : Int)), .val (wtsD w1 p i), x6, ?_⟩
      rw [← pkL_snoc]; rfl
    · rintro m ρ1 ⟨rfl, x4, x5, x6, rfl⟩
      rw [rangeD_len]
      refine ws_freeze 3 rfl ?_
      walk_at "ws1"
      walk_at "go"
      exact rc_tup rfl kk
/-! all packets -/
def spEncX (CB : Addr) : L3.SpecX := fun bag n ds Φ Ξ => ∃ a v : D, ds = [a, v] ∧ thg a = true ∧ Val v ∧ (∀ x, faultS a v = some x → Ξ n CB (xWhat x)) ∧ (faultS a v = none → Φ n (encD ((intOf a).toNat - 1) ((rowOf v).map intOf)))
theorem fault_no {a v : D} (h1 : ftD a 1 4 = true) (h2 : valsB v = true) : faultS a v = none := by
  unfold faultS
  rw [h1, h2]; rfl
theorem fault_v {a v : D} (h1 : ftD a 1 4 = true) (h2 : valsB v = false) : faultS a v = some "values" := by
  unfold faultS
  rw [h1, h2]; rfl
theorem fault_w {a v : D} (h1 : ftD a 1 4 = false) : faultS a v = some "width" := if_pos h1
abbrev s_encode : Stmt := top 17
abbrev N_encode : List Str := ["width", "values", "place"]
theorem sc_encode : FnScope N_encode ["width", "values"] (defScope s_encode) := ⟨rfl, rfl, rfl, by decide +kernel, rfl, by decide +kernel, by decide +kernel⟩

theorem ok_enc {f : Addr} {fd : FuncData} {CB : Addr} (F : Fun K "encode" "encode" s_encode f fd) (T : Txt mg) (R_check_width : Dx P w K mg base "check_width" 3 ["width"] (spCW CB)) (R_check_values : Dx P w K mg base "check_values" 3 ["values"] (spCV CB)) (D_packet_at : Dn P w K mg base "packet_at" 3 ["width", "values", "place"] [] [] spPkt) : FnOk P w K mg base (L2.CX P w) 4 f fd ["width", "values"] (spDX K (spEncX CB)) := by
  refine fn_DX F sc_encode (fun bag n ds Φ Ξ h => ?_) (fun cdv A outer s H E O bag n ds Φ Ξ hr h hx => ?_)
  · obtain ⟨a, v, e, _⟩ := h
    rw [e]; rfl
  · obtain ⟨a, v, e, ha, hv, k1, k2⟩ := h
    subst e
    refine ⟨_, (pss_cons (ps_expr (pe_callSD R_check_width.G (hr.mono (by decide)) (by rfl) R_check_width.m R_check_width.k R_check_width.b .nil (fun σ => passAt (takes_of rfl rfl rfl rfl) σ) (pa_cons (pv 0) pa_nil)))
  (pss_cons (ps_expr (pe_callSD R_check_values.G (hr.mono (by decide)) (by rfl) R_check_values.m R_check_values.k R_check_values.b .nil (fun σ => passAt (takes_of rfl rfl rfl rfl) σ) (pa_cons (pv 1) pa_nil)))
  (pss_one (ps_ret (pe_callTy (x_tup K) (by rfl) T.b_tuple (by decide +kernel) (pa_cons (pe_lc (own := [("place", 2)]) (g := gName 2) (tt := tYes) rfl sc_encode.nd (pi_range1 (by rfl) T.b_range (pa_cons (pe_callB (x_len K) (by rfl) T.b_len (by decide +kernel) (pa_cons (pv 1) pa_nil)) pa_nil)) (blkOk_by (own := [("place", 2)]) (N := N_encode) (sc := defScope s_encode) (by decide +kernel)) (fun _ _ _ _ _ => (pg_name (i := 2) sc_encode.nd rfl (Or.inl rfl))) (fun _ _ _ _ _ => pts_nil) (fun _ _ _ _ _ => (pe_call D_packet_at.G (hr.mono (by decide)) (by rfl) D_packet_at.m D_packet_at.k D_packet_at.b D_packet_at.v pass0 (pa_cons (pv 0) (pa_cons (pv 1) (pa_cons (pv 2) pa_nil)))))) pa_nil)))))), ?_⟩
    show WS _ _ [.val a, .val v, .un] n _
    walk_at "ws1"
    refine ws_drop (we_callX hx (dds := []) (fun _ => .nil) ?_)
    walk_at "go"
    refine ⟨ha, fun hf => k1 "width" (fault_w hf), fun hf => ?_⟩
    walk_at "ws1"
    refine ws_drop (we_callX hx (dds := []) (fun _ => .nil) ?_)
    walk_at "go"
    refine ⟨hv, fun hg => k1 "values" (fault_v hf hg), fun hg => ?_⟩
    have kk := k2 (fault_no hf hg)
    obtain ⟨b, vs, rfl, hl⟩ := vals_is hg
    obtain ⟨iw, rfl, hw1, hw4⟩ := ft_is hf
    obtain ⟨w1, rfl⟩ : ∃ w1 : Nat, iw = (w1 : Int) + 1 := ⟨(iw - 1).toNat, by omega⟩
    have hw3 : w1 ≤ 3 := by omega
    have e1 : (intOf (.int ((w1 : Int) + 1))).toNat - 1 = w1 := by
      show ((w1 : Int) + 1).toNat - 1 = w1
      omega
    rw [e1, row_of, int_map] at kk
    have hb := ints_val hv
    walk_at "ws1"
    refine we_cb (wa_cons (wf_we (wf_map (fun d => .tup ((pktF w1 vs (intOf d).toNat).map .int)) (fun _ => true) ?_)))
    walk_at "go"
    refine rc_len (row_len b _) ?_
    rw [List.length_map]
    refine wa_nil ⟨_, rfl, by omega, by omega, ?_⟩
    have e2 : ((vs.length : Nat) : Int).toNat = vs.length := by omega
    rw [e2, rangeD_len]
    refine ⟨by omega, fun d hd m => ?_, ?_⟩
    · obtain ⟨j, hd⟩ := List.getElem?_of_mem hd
      obtain ⟨hj, rfl⟩ := rangeD_get hd
      have e3 : (0 : Int) + (j : Int) = (j : Int) := by omega
      rw [e3]
      walk_at "go"
      refine ⟨rfl, rfl, fun _ => ?_⟩
      walk_at "go"
      exact ⟨w1, j, b, vs, rfl, hw3, hj, hl, hb, rfl, rfl⟩
    rw [filt_all]
    have e4 : (rangeD 0 vs.length).map (fun d => D.tup ((pktF w1 vs (intOf d).toNat).map .int)) = encL w1 vs vs.length := by
      unfold rangeD encL
      rw [List.map_map]
      refine List.map_congr_left fun e _ => ?_
      show D.tup ((pktF w1 vs ((0 : Int) + (e : Int)).toNat).map .int) = _
      rw [show ((0 : Int) + (e : Int)).toNat = e by omega]
    rw [e4]
    exact wa_nil (rc_tup rfl kk)
/-- nothing is refused -/
def spEnc : L3.Spec := fun bag n ds Φ => ∃ (w1 : Nat) (b : Bool) (vs : List Int), ds = [.int ((w1 : Int) + 1), rowD b (vs.map .int)] ∧ w1 ≤ 3 ∧ vs.length ≤ 30 ∧ (∀ i ∈ vs, i.natAbs < 2 ^ 200) ∧ Φ n (encD w1 vs)
theorem w1_of (w1 : Nat) : (intOf (.int ((w1 : Int) + 1))).toNat - 1 = w1 := by
  show ((w1 : Int) + 1).toNat - 1 = w1
  omega
theorem fault_ok {w1 : Nat} {b : Bool} {vs : List Int} (h1 : w1 ≤ 3) (hl : vs.length ≤ 30) : faultS (.int ((w1 : Int) + 1)) (rowD b (vs.map .int)) = none := fault_no (by
  show (decide ((1 : Int) ≤ (w1 : Int) + 1) && decide ((w1 : Int) + 1 ≤ 4)) = true
  rw [decide_eq_true (by omega), decide_eq_true (by omega)]; rfl) (by rw [vals_of]; exact decide_eq_true hl)
theorem ok_encC {f : Addr} {fd : FuncData} {CB : Addr} (F : FnOk P w K mg base (L2.CX P w) 4 f fd ["width", "values"] (spDX K (spEncX CB))) : FnOk P w K mg base CX0 4 f fd ["width", "values"] (spD K spEnc) :=
  fn_calm F fun bag n ds Φ ⟨w1, b, vs, e, h1, hl, hb, kk⟩ => ⟨_, _, e, rfl, val_ints (by omega) hb, (fun x hx => by rw [fault_ok h1 hl] at hx; cases hx), fun _ => by rw [w1_of, row_of, int_map]; exact kk⟩
theorem ok_encQ {f : Addr} {fd : FuncData} {CB : Addr} (F : Fun K "encode" "encode" s_encode f fd) (T : Txt mg) (R_check_width : Dx P w K mg base "check_width" 3 ["width"] (spCW CB)) (R_check_values : Dx P w K mg base "check_values" 3 ["values"] (spCV CB)) (D_packet_at : Dn P w K mg base "packet_at" 3 ["width", "values", "place"] [] [] spPkt) : FnOk P w K mg base CX0 4 f fd ["width", "values"] (spD K spEnc) := ok_encC (ok_enc F T R_check_width R_check_values D_packet_at)
/-! coders -/
structure CoT (K : PySem.W.Frag) (C : Addr) : Prop where
  cl : Cls K C
  n1 : PySem.W.findIn K (.ref C) "width" = some none
  n2 : PySem.W.findIn K (.ref C) "stream" = some none
def codF (a : D) (xs : List D) : List (Str × D) := [("width", a), ("stream", .tup xs)]
def coD (C : Addr) (w1 : Nat) (vs : List Int) : D := .obj C (codF (.int ((w1 : Int) + 1)) (vs.map .int))
def spCoderX (CB : Addr) : SpecIX := fun bag n ds Φ Ξ => ∃ a v : D, ds = [a, v] ∧ thg a = true ∧ Val v ∧ (∀ x, faultS a v = some x → Ξ n CB (xWhat x)) ∧ (faultS a v = none → Φ n (codF a (rowOf v)))
abbrev s_Coder___init : Stmt := inClass (top 18) 0
abbrev N_Coder___init : List Str := ["self", "width", "stream"]
theorem sc_Coder___init : FnScope N_Coder___init ["self", "width", "stream"] (defScope s_Coder___init) := ⟨rfl, rfl, rfl, by decide +kernel, rfl, by decide +kernel, by decide +kernel⟩

theorem ok_coder {f C CB : Addr} {fd : FuncData} {dvs : List V} (F : FunD K "__init__" "Coder.__init__" (defArgs s_Coder___init) (defBody s_Coder___init) (defScope s_Coder___init) dvs [] f fd) (T : Txt mg) (TC : CoT K C) (R_check_width : Dx P w K mg base "check_width" 3 ["width"] (spCW CB)) (R_check_values : Dx P w K mg base "check_values" 3 ["values"] (spCV CB)) : FnOk P w K mg base (L2.CX P w) 4 f fd ["self", "width", "stream"] (spIX K C (spCoderX CB)) := by
  refine fn_IDX F sc_Coder___init (fun bag n ds Φ Ξ h => ?_) (fun cdv A outer s H E hr => ?_)
  · obtain ⟨a, v, e, _⟩ := h
    rw [e]; rfl
  · refine ⟨_, (pss_cons (ps_expr (pe_callSD R_check_width.G (hr.mono (by decide)) (by rfl) R_check_width.m R_check_width.k R_check_width.b .nil (fun σ => passAt (takes_of rfl rfl rfl rfl) σ) (pa_cons (pv 1) pa_nil)))
  (pss_cons (ps_expr (pe_callSD R_check_values.G (hr.mono (by decide)) (by rfl) R_check_values.m R_check_values.k R_check_values.b .nil (fun σ => passAt (takes_of rfl rfl rfl rfl) σ) (pa_cons (pv 2) pa_nil)))
  (pss_cons (x_sfld K (ps_fld (pv 0) (pv 1) rfl))
  (pss_one (x_sfld K (ps_fld (pv 0) (pe_callTy (x_tup K) (by rfl) T.b_tuple (by decide +kernel) (pa_cons (pv 2) pa_nil)) rfl)))))), fun O bag n ds Φ Ξ p dx h hx => ?_⟩
    obtain ⟨a, v, e, ha, hv, k1, k2⟩ := h
    subst e
    show WNX _ _ _ _ _ _ _ _ _ _ [.val (.adr p), .val a, .val v] n [] _
    refine wnx_preF fun H0 s00 => ?_
    have hx0 := hx H0 s00
    refine ws_drop (we_callX hx0 (dds := []) (fun _ => .nil) ?_)
    walk_at "go"
    refine ⟨ha, fun hf => k1 "width" (fault_w hf), fun hf => ?_⟩
    show WNX _ _ _ _ _ _ _ _ _ _ [.val (.adr p), .val a, .val v] n [] _
    refine wnx_preF fun H1 s01 => ?_
    have hx1 := hx H1 s01
    refine ws_drop (we_callX hx1 (dds := []) (fun _ => .nil) ?_)
    walk_at "go"
    refine ⟨hv, fun hg => k1 "values" (fault_v hf hg), fun hg => ?_⟩
    have kk := k2 (fault_no hf hg)
    show WNX _ _ _ _ _ _ _ _ _ _ [.val (.adr p), .val a, .val v] n [] _
    obtain ⟨b, vs, rfl, hl⟩ := vals_is hg
    rw [row_of] at kk
    refine wnx_of ?_
    refine wn_seq TC.cl TC.n1 (by decide) rfl fun H0 => ?_
    walk_at "go"
    refine wn_st TC.cl TC.n2 (by show 1 < 1000; decide) rfl fun H0 => ?_
    walk_at "go"
    exact rc_tup (row_seq b _) kk
def spEqC (C : Addr) : L3.Spec := fun bag n ds Φ => ∃ (u v : Nat) (us vs : List Int), ds = [coD C u us, coD C v vs] ∧ Φ n (.bl (decide (u = v ∧ us = vs)))
abbrev s_Coder___eq : Stmt := inClass (top 18) 1
abbrev N_Coder___eq : List Str := ["self", "other"]
theorem sc_Coder___eq : FnScope N_Coder___eq ["self", "other"] (defScope s_Coder___eq) := ⟨rfl, rfl, rfl, by decide +kernel, rfl, by decide +kernel, by decide +kernel⟩

theorem ok_eqC {f C_Coder : Addr} {fd : FuncData} (F : Fun K "__eq__" "Coder.__eq__" s_Coder___eq f fd) (T : Txt mg) (TC : CoT K C_Coder) (TI : IsaT K C_Coder) (gC_Coder : mg "Coder" = some (.ref C_Coder)) : FnOk P w K mg base CX0 1 f fd ["self", "other"] (spD K (spEqC C_Coder)) := by
  refine fn_D F sc_Coder___eq (fun bag n ds Φ h => ?_) (fun cdv A outer s H Ex O bag n ds Φ hr h => ?_)
  · obtain ⟨u, v, us, vs, e, _⟩ := h
    rw [e]; rfl
  · obtain ⟨u, v, us, vs, e, kk⟩ := h
    subst e
    refine ⟨_, (pss_cons (ps_if (pt_not (pt_val (pe_callB (x_isi K) (by rfl) T.b_isinstance (by decide +kernel) (pa_cons (pv 1) (pa_cons (pe_glob (v := .ref C_Coder) (by rfl) gC_Coder rfl) pa_nil))))) (pss_one L3.ps_never) pss_nil)
  (pss_one (ps_ret (pe_and (pe_cmpR (x_eq K (by exact hr.units)) (x_fld K (pe_fld (pv 0) rfl)) (x_fld K (pe_fld (pv 1) rfl)) (nomark _)) (pe_one (pe_cmpR (x_eq K (by exact hr.units)) (x_fld K (pe_fld (pv 0) rfl)) (x_fld K (pe_fld (pv 1) rfl)) (nomark _))))))), ?_⟩
    show WS _ _ [.val (coD C_Coder u us), .val (coD C_Coder v vs)] n _
    walk_at "ws1"
    refine ws_if ?_
    walk_at "go"
    refine we_const (fun H => .adr _) ?_
    walk_at "go"
    refine rc_isiO TC.cl TI ?_
    refine ⟨_, rfl, itF rfl ?_⟩
    walk_at "ws1"
    walk_at "ws1"
    refine we_and (we_op (we_fld TC.cl TC.n1 ?_))
    walk_at "we1"
    refine ⟨_, rfl, _, rfl, ?_⟩
    refine we_fld TC.cl TC.n1 ?_
    walk_at "we1"
    refine ⟨_, rfl, _, rfl, ?_⟩
    refine r2_eqD rfl rfl ?_
    rw [eq_intD]
    refine ⟨_, rfl, dec2 (fun h1 => ?_) (fun h1 => ?_)⟩
    · refine we_op (we_fld TC.cl TC.n2 ?_)
      walk_at "we1"
      refine ⟨_, rfl, _, rfl, ?_⟩
      refine we_fld TC.cl TC.n2 ?_
      walk_at "we1"
      refine ⟨_, rfl, _, rfl, ?_⟩
      refine r2_eqD (fit_ints us) (fit_ints vs) ?_
      rw [eq_tupI]
      have : decide (us = vs) = decide (u = v ∧ us = vs) := decide_eq_decide.mpr ⟨fun h => ⟨by omega, h⟩, fun h => h.2⟩
      rw [this]
      exact kk
    · have : decide (u = v ∧ us = vs) = false := decide_eq_false fun h => h1 (by rw [h.1])
      rw [this] at kk
      exact kk
/-! one value more, all packets -/
def spPutX (CB C : Addr) : L3.SpecX := fun bag n ds Φ Ξ => ∃ (w1 : Nat) (vs : List Int) (d : D), ds = [coD C w1 vs, d] ∧ w1 ≤ 3 ∧ vs.length ≤ 30 ∧ (∀ i ∈ vs, i.natAbs < 2 ^ 200) ∧ thg d = true ∧ (∀ i, d = .int i → i.natAbs < 2 ^ 200) ∧
  ((wholeD d && decide (vs.length < 30)) = false → Ξ n CB (xWhat "values")) ∧ (∀ i, d = .int i → vs.length < 30 → Φ n (coD C w1 (vs ++ [i])))
theorem vals_put {vs : List Int} {d : D} (hl : vs.length ≤ 30) : valsB (.tup (vs.map .int ++ [d])) = (wholeD d && decide (vs.length < 30)) := by
  show (true && decide ((vs.map D.int ++ [d]).length ≤ 30) && (vs.map D.int ++ [d]).all wholeD) = _
  rw [List.length_append, List.length_map, List.all_append]
  have : (vs.map D.int).all wholeD = true := List.all_eq_true.mpr fun x hx => by
    obtain ⟨k, _, rfl⟩ := List.mem_map.mp hx
    rfl
  rw [this, Bool.true_and, Bool.true_and, List.all_cons, List.all_nil, Bool.and_true, Bool.and_comm]
  congr 1
abbrev s_Coder_put : Stmt := inClass (top 18) 2
abbrev N_Coder_put : List Str := ["self", "value"]
theorem sc_Coder_put : FnScope N_Coder_put ["self", "value"] (defScope s_Coder_put) := ⟨rfl, rfl, rfl, by decide +kernel, rfl, by decide +kernel, by decide +kernel⟩

theorem ok_put {f C CB : Addr} {fd : FuncData} (F : Fun K "put" "Coder.put" s_Coder_put f fd) (T : Txt mg) (TC : CoT K C) (R_Coder2 : Mnx P w K mg base C "Coder" 4 ["self", "width", "stream"] [] [] (spCoderX CB)) : FnOk P w K mg base (L2.CX P w) 6 f fd ["self", "value"] (spDX K (spPutX CB C)) := by
  refine fn_DX F sc_Coder_put (fun bag n ds Φ Ξ h => ?_) (fun cdv A outer s H Ex O bag n ds Φ Ξ hr h hx => ?_)
  · obtain ⟨w1, vs, d, e, _⟩ := h
    rw [e]; rfl
  · obtain ⟨w1, vs, d, e, h1, hl, hb, hd, hi, k1, k2⟩ := h
    subst e
    refine ⟨_, (pss_one (ps_ret (pe_make R_Coder2.M R_Coder2.G (hr.mono (by decide)) (by rfl) R_Coder2.m R_Coder2.b R_Coder2.v (passes_call (takes_of rfl rfl rfl rfl) (fun _ _ _ _ h => h)) (pa_cons (x_fld K (pe_fld (pv 0) rfl)) (pa_cons (pe_op (x_add K) (x_fld K (pe_fld (pv 0) rfl)) (pe_tup (pa_cons (pv 1) pa_nil))) pa_nil))))), ?_⟩
    show WS _ _ [.val (coD C w1 vs), .val d] n _
    refine ws_ret (we_makeX hx (dds := []) (fun _ => .nil) (wa_cons (we_fld TC.cl TC.n1 ?_)))
    walk_at "we1"
    refine ⟨_, rfl, _, rfl, ?_⟩
    refine wa_cons (we_op (we_fld TC.cl TC.n2 ?_))
    walk_at "we1"
    refine ⟨_, rfl, _, rfl, ?_⟩
    walk_at "go"
    refine ⟨Nat.le_of_ble_eq_true rfl, ?_⟩
    refine r2_add (add_tup (a := vs.map D.int) (b := [d]) (by rw [List.length_map]; show vs.length + 1 ≤ _; omega)) ?_
    have hft : ftD (.int ((w1 : Int) + 1)) 1 4 = true := by
      show (decide ((1 : Int) ≤ (w1 : Int) + 1) && decide ((w1 : Int) + 1 ≤ 4)) = true
      rw [decide_eq_true (by omega), decide_eq_true (by omega)]; rfl
    have hV := vals_put (d := d) hl
    refine wa_nil ⟨_, _, rfl, rfl, ⟨thgAll_of fun x hx => ?_, ?_, fun i hi' => ?_⟩, fun x hx => ?_, fun hx => ?_⟩
    · rcases List.mem_append.mp hx with q | q
      · obtain ⟨k, _, rfl⟩ := List.mem_map.mp q
        rfl
      · rw [List.mem_singleton.mp q]; exact hd
    · show (vs.map D.int ++ [d]).length ≤ 1000
      rw [List.length_append, List.length_map]
      show vs.length + 1 ≤ 1000
      omega
    · have hi' : D.int i ∈ vs.map D.int ++ [d] := hi'
      rcases List.mem_append.mp hi' with q | q
      · obtain ⟨k, hk, e⟩ := List.mem_map.mp q
        cases e
        exact hb _ hk
      · exact hi i (List.mem_singleton.mp q).symm
    · cases hq : valsB (.tup (vs.map .int ++ [d])) with
      | true =>
        rw [fault_no hft hq] at hx
        cases hx
      | false =>
        rw [fault_v hft hq] at hx
        cases hx
        exact k1 (hV.symm.trans hq)
    · cases hq : valsB (.tup (vs.map .int ++ [d])) with
      | false =>
        rw [fault_v hft hq] at hx
        cases hx
      | true =>
        rw [hV, Bool.and_eq_true, decide_eq_true_eq] at hq
        obtain ⟨i, rfl⟩ := whole_is hq.1
        have z := k2 i rfl hq.2
        unfold coD at z
        rw [List.map_append] at z
        exact z
def spPut (C : Addr) : L3.Spec := fun bag n ds Φ => ∃ (w1 : Nat) (vs : List Int) (i : Int), ds = [coD C w1 vs, .int i] ∧ w1 ≤ 3 ∧ vs.length < 30 ∧ (∀ i ∈ vs, i.natAbs < 2 ^ 200) ∧ i.natAbs < 2 ^ 200 ∧ Φ n (coD C w1 (vs ++ [i]))
theorem ok_putC {f C CB : Addr} {fd : FuncData} (F : FnOk P w K mg base (L2.CX P w) 6 f fd ["self", "value"] (spDX K (spPutX CB C))) : FnOk P w K mg base CX0 6 f fd ["self", "value"] (spD K (spPut C)) :=
  fn_calm F fun bag n ds Φ ⟨w1, vs, i, e, h1, hl, hb, hi, kk⟩ => ⟨w1, vs, _, e, h1, by omega, hb, rfl, (fun j hj => by cases hj; exact hi), (fun q => by rw [decide_eq_true hl] at q; cases q), fun j hj _ => by cases hj; exact kk⟩
def spPks (C : Addr) : L3.Spec := fun bag n ds Φ => ∃ (w1 : Nat) (vs : List Int), ds = [coD C w1 vs] ∧ w1 ≤ 3 ∧ vs.length ≤ 30 ∧ (∀ i ∈ vs, i.natAbs < 2 ^ 200) ∧ Φ n (encD w1 vs)
abbrev s_Coder_packets : Stmt := inClass (top 18) 3
abbrev N_Coder_packets : List Str := ["self"]
theorem sc_Coder_packets : FnScope N_Coder_packets ["self"] (defScope s_Coder_packets) := ⟨rfl, rfl, rfl, by decide +kernel, rfl, by decide +kernel, by decide +kernel⟩

theorem ok_pks {f C : Addr} {fd : FuncData} (F : Fun K "packets" "Coder.packets" s_Coder_packets f fd) (T : Txt mg) (TC : CoT K C) (D_encode : Dn P w K mg base "encode" 4 ["width", "values"] [] [] spEnc) : FnOk P w K mg base CX0 5 f fd ["self"] (spD K (spPks C)) := by
  refine fn_D F sc_Coder_packets (fun bag n ds Φ h => ?_) (fun cdv A outer s H Ex O bag n ds Φ hr h => ?_)
  · obtain ⟨w1, vs, e, _⟩ := h
    rw [e]; rfl
  · obtain ⟨w1, vs, e, h1, hl, hb, kk⟩ := h
    subst e
    refine ⟨_, (pss_one (ps_ret (pe_call D_encode.G (hr.mono (by decide)) (by rfl) D_encode.m D_encode.k D_encode.b D_encode.v pass0 (pa_cons (x_fld K (pe_fld (pv 0) rfl)) (pa_cons (x_fld K (pe_fld (pv 0) rfl)) pa_nil))))), ?_⟩
    show WS _ _ [.val (coD C w1 vs)] n _
    refine ws_ret (we_call0 (wa_cons (we_fld TC.cl TC.n1 ?_)))
    walk_at "we1"
    refine ⟨_, rfl, _, rfl, ?_⟩
    refine wa_cons (we_fld TC.cl TC.n2 ?_)
    walk_at "we1"
    refine ⟨_, rfl, _, rfl, ?_⟩
    exact wa_nil ⟨w1, false, vs, rfl, h1, hl, hb, kk⟩

end
end Toy
namespace Toy
open PySem L2 L3
local macro_rules | `(tactic| walk_at "we1") => `(tactic| first
  | ((with_reducible refine' we_var ?hv ?_); (case hv => rfl))
  | (with_reducible refine we_int ?_)
  | (with_reducible refine we_str ?_)
  | (with_reducible refine we_bl ?_)
  | (with_reducible refine we_non ?_)
  | ((with_reducible refine' we_dix ?hv ?_); (case hv => rfl))
  | (with_reducible refine we_op ?_)
  | ((with_reducible refine' we_dget ?hv ?_); (case hv => rfl))
  | (with_reducible refine we_count ?_)
  | (with_reducible refine we_cb ?_)
  | (with_reducible refine we_call0 ?_)
  | (with_reducible refine we_tup ?_)
  | (with_reducible refine we_lst ?_)
  | (with_reducible refine we_if ?_)
  | (with_reducible refine we_not ?_)
  | (with_reducible refine we_and ?_)
  | (with_reducible refine we_or ?_)
  | (with_reducible refine we_isN ?_)
  | (with_reducible refine we_notN ?_)
  | (with_reducible refine we_sl ?_)
  | (with_reducible refine wa_cons ?_)
  | (with_reducible refine wa_nil ?_)
  | (with_reducible refine wt_test ?_)
  | (with_reducible refine wt_B ?_)
  | (with_reducible refine wt_and ?_)
  | (with_reducible refine wt_or ?_)
  | (with_reducible refine wt_not ?_)
  | (with_reducible refine wt_yes ?_)
  | (with_reducible refine wo_none ?_)
  | (with_reducible refine wo_some ?_)
  | ((with_reducible refine' r2_ix ?hx ?_); (case hx => rfl))
  | (with_reducible refine r2_isN ?_)
  | (with_reducible refine r2_notN ?_)
  | (with_reducible refine r2_lt ?_)
  | (with_reducible refine r2_le ?_)
  | (with_reducible refine r2_gt ?_)
  | (with_reducible refine r2_ge ?_)
  | (with_reducible refine r2_sub ?_)
  | (with_reducible refine r2_addI ?_)
  | (with_reducible refine r2_eqI ?_)
  | (with_reducible refine r2_neI ?_)
  | (with_reducible refine rc_int ?_)
  | (with_reducible refine rc_abs ?_)
  | ((with_reducible refine' rc_len ?hl ?_); (case hl => rfl))
  | (with_reducible refine wi_seq ?_)
  | (with_reducible refine wi_rng1 ?_)
  | (with_reducible refine wi_rng2 ?_)
  | (with_reducible refine wi_enum ?_)
  | (refine ⟨_, rfl, ?_⟩))
local macro_rules | `(tactic| walk_at "ws1") => `(tactic| first
  | (with_reducible refine ws_seq ?_)
  | (with_reducible refine ws_set ?_)
  | (with_reducible refine ws_ret ?_)
  | (with_reducible refine ws_if ?_)
  | (with_reducible refine ws_next ?_)
  | (with_reducible refine ws_asg ?_))
local macro_rules | `(tactic| walk_at "wg1") => `(tactic| first
  | (with_reducible refine wg_name (rw_name (by decide)) ?_)
  | (with_reducible refine wg_name (fun _ _ => trivial) ?_)
  | ((with_reducible refine' wg_tup ?hl ?_); (case hl => rfl))
  | (with_reducible refine wgs_cons rw_trans ?_)
  | (with_reducible refine wgs_nil rw_refl ?_)
  | (with_reducible refine wgs_cons (fun _ _ _ _ _ => trivial) ?_)
  | (with_reducible refine wgs_nil (fun _ => trivial) ?_))
local macro_rules | `(tactic| walk_at "go") => `(tactic| repeat' (first | walk_at "we1" | walk_at "wg1"))
section
variable {P : Program} {w : World} {K : PySem.W.Frag} {mg : Str → Option Value} {base : Heap}

/-! drawn numbers -/
def spNum : L3.Spec := fun bag n ds Φ => ∃ b q, bag = some (b, q) ∧ ds = [.adr b] ∧ n < 2 ^ 50 ∧ ∀ (i : Int) (n' : Nat), i.natAbs < 2 ^ 100 → n' ≤ n + 3 → Φ n' (.int i)
abbrev s_law_number : Stmt := top 22
abbrev N_law_number : List Str := ["bag", "kind", "number"]
theorem sc_law_number : FnScope N_law_number ["bag"] (defScope s_law_number) := ⟨rfl, rfl, rfl, by decide +kernel, rfl, by decide +kernel, by decide +kernel⟩

theorem ok_num {f : Addr} {fd : FuncData} (F : Fun K "_law_number" "_law_number" s_law_number f fd) (T : Txt mg) (D_law_draw : Dn P w K mg base "_law_draw" 1 ["bag", "limit"] [] [] spDraw) : FnOk P w K mg base CX0 2 f fd ["bag"] (spD K spNum) := by
  refine fn_D F sc_law_number (fun bag n ds Φ h => ?_) (fun cdv A outer s H E O bag n ds Φ hr h => ?_)
  · obtain ⟨b, q, _, e, _⟩ := h
    rw [e]; rfl
  · obtain ⟨b, q, hbag, e, hn, kk⟩ := h
    subst e
    refine ⟨_, (pss_cons (ps_set (i := 1) sc_law_number.nd rfl (Or.inl rfl) (pe_call D_law_draw.G (hr.mono (by decide)) (by rfl) D_law_draw.m D_law_draw.k D_law_draw.b D_law_draw.v pass0 (pa_cons (pv 0) (pa_cons pe_int pa_nil))))
  (pss_cons (ps_if (pt_cmpR op_gt (pv 1) pe_int (nomark _)) (pss_one (ps_ret (pe_call D_law_draw.G (hr.mono (by decide)) (by rfl) D_law_draw.m D_law_draw.k D_law_draw.b D_law_draw.v pass0 (pa_cons (pv 0) (pa_cons pe_int pa_nil))))) pss_nil)
  (pss_cons (ps_set (i := 2) sc_law_number.nd rfl (Or.inl rfl) (pe_call D_law_draw.G (hr.mono (by decide)) (by rfl) D_law_draw.m D_law_draw.k D_law_draw.b D_law_draw.v pass0 (pa_cons (pv 0) (pa_cons (pe_op op_pow pe_int pe_int) pa_nil))))
  (pss_one (ps_ret (pe_ifExp (pt_cmpR (x_eq K (by exact hr.units)) (pe_call D_law_draw.G (hr.mono (by decide)) (by rfl) D_law_draw.m D_law_draw.k D_law_draw.b D_law_draw.v pass0 (pa_cons (pv 0) (pa_cons pe_int pa_nil))) pe_int (nomark _)) (pv 2) (pe_op op_sub pe_int (pv 2)))))))), ?_⟩
    show WS _ _ [.val (.adr b), .un, .un] n _
    refine ws_cut (fun n1 ρ1 => n1 = n + 1 ∧ ∃ r : Int, ρ1 = [.val (.adr b), .val (.int r), .un]) ?_ ?_
    · walk_at "ws1"
      walk_at "go"
      exact ⟨b, q, _, hbag, rfl, by decide, by decide, by omega, fun r h0 h1 => ⟨rfl, r, rfl⟩⟩
    rintro n1 ρ1 ⟨rfl, r, rfl⟩
    refine ws_cut2 (Nx := fun n2 ρ1 => n2 = n + 1 ∧ ρ1 = [.val (.adr b), .val (.int r), .un]) ?_ ?_
    · walk_at "ws1"
      walk_at "go"
      refine dec2 (fun h3 => ?_) (fun h3 => ?_)
      · walk_at "ws1"
        walk_at "go"
        refine ⟨b, q, _, hbag, rfl, by decide, by decide, by omega, fun r h0 h1 => kk r _ ?_ (by omega)⟩
        have : r.natAbs < 4 := by omega
        exact Nat.lt_of_lt_of_le this (by decide +kernel)
      · walk_at "ws1"
        exact ⟨rfl, rfl⟩
    rintro n2 ρ1 ⟨rfl, rfl⟩
    refine ws_cut (fun n3 ρ1 => n3 = n + 2 ∧ ∃ i : Int, 0 ≤ i ∧ i.natAbs < 2 ^ 100 ∧ ρ1 = [.val (.adr b), .val (.int r), .val (.int i)]) ?_ ?_
    · walk_at "ws1"
      walk_at "go"
      refine r2_pow ⟨by decide, by decide, by decide⟩ ?_
      refine wa_nil ⟨b, q, _, hbag, rfl, by decide, by decide, by omega, fun i h0 h1 => ⟨rfl, i, h0, ?_, rfl⟩⟩
      have h2 : i.natAbs < 10 ^ 30 := by
        have h1' : i < 10 ^ 30 := h1
        omega
      exact Nat.lt_trans h2 (by decide +kernel)
    rintro n3 ρ1 ⟨rfl, i, h0, hi, rfl⟩
    refine ws_ret (we_if ?_)
    walk_at "go"
    refine ⟨b, q, _, hbag, rfl, by decide, by decide, by omega, fun r2 h0 h1 => ?_⟩
    walk_at "go"
    refine dec2 (fun h2 => ?_) (fun h2 => ?_)
    · walk_at "go"
      exact kk i _ hi (by omega)
    · walk_at "go"
      exact kk _ _ (by omega) (by omega)
def spNums : L3.Spec := fun bag n ds Φ => ∃ b q, bag = some (b, q) ∧ ∃ c : Nat, ds = [.adr b, .int (c : Int)] ∧ c ≤ 31 ∧ n < 2 ^ 40 ∧ ∀ (vs : List Int) (n' : Nat), vs.length = c → (∀ i ∈ vs, i.natAbs < 2 ^ 100) → n' ≤ n + 3 * c → Φ n' (.lst (vs.map .int))
abbrev s_law_number_row : Stmt := top 23
abbrev N_law_number_row : List Str := ["bag", "count", "place"]
theorem sc_law_number_row : FnScope N_law_number_row ["bag", "count"] (defScope s_law_number_row) := ⟨rfl, rfl, rfl, by decide +kernel, rfl, by decide +kernel, by decide +kernel⟩

theorem ok_nums {f : Addr} {fd : FuncData} (F : Fun K "_law_number_row" "_law_number_row" s_law_number_row f fd) (T : Txt mg) (D_law_number : Dn P w K mg base "_law_number" 2 ["bag"] [] [] spNum) : FnOk P w K mg base CX0 3 f fd ["bag", "count"] (spD K spNums) := by
  refine fn_D F sc_law_number_row (fun bag n ds Φ h => ?_) (fun cdv A outer s H E O bag n ds Φ hr h => ?_)
  · obtain ⟨b, q, _, c, e, _⟩ := h
    rw [e]; rfl
  · obtain ⟨b, q, hbag, c, e, hc, hn, kk⟩ := h
    subst e
    refine ⟨_, (pss_one (ps_ret (pe_lc (own := [("place", 2)]) (g := gName 2) (tt := tYes) rfl sc_law_number_row.nd (pi_range1 (by rfl) T.b_range (pa_cons (pv 1) pa_nil)) (blkOk_by (own := [("place", 2)]) (N := N_law_number_row) (sc := defScope s_law_number_row) (by decide +kernel)) (fun _ _ _ _ _ => (pg_name (i := 2) sc_law_number_row.nd rfl (Or.inl rfl))) (fun _ _ _ _ _ => pts_nil) (fun _ _ _ _ _ => (pe_call D_law_number.G (hr.mono (by decide)) (by rfl) D_law_number.m D_law_number.k D_law_number.b D_law_number.v pass0 (pa_cons (pv 0) pa_nil)))))), ?_⟩
    show WS _ _ [.val (.adr b), .val (.int (c : Int)), .un] n _
    refine ws_ret (wf_we (wf_lc ?_))
    walk_at "go"
    refine ⟨by omega, by omega, ?_⟩
    have e0 : ((c : Nat) : Int).toNat = c := by omega
    rw [e0]
    refine ⟨fun k m acc => m ≤ n + 3 * k ∧ ∃ vs : List Int, acc = vs.map .int ∧ vs.length = k ∧ ∀ i ∈ vs, i.natAbs < 2 ^ 100, ⟨by omega, [], rfl, rfl, fun _ h => nomatch h⟩, fun k m acc d hd ⟨e1, vs, e2, e3, e4⟩ => ?_, fun m acc ⟨e1, vs, e2, e3, e4⟩ => ?_⟩
    · obtain ⟨hk, rfl⟩ := rangeD_get hd
      subst e2
      walk_at "go"
      refine itT rfl ?_
      walk_at "go"
      refine ⟨b, q, hbag, rfl, by omega, fun i n' hi hn' => ⟨by rw [List.length_map, sizeLine_eq]; omega, by omega, vs ++ [i], ?_, by rw [List.length_append, e3]; rfl, fun j hj => ?_⟩⟩
      · rw [List.map_append]; rfl
      · rcases List.mem_append.mp hj with z | z
        · exact e4 j z
        · rw [List.mem_singleton.mp z]; exact hi
    · rw [rangeD_len] at e1 e3
      subst e2
      exact kk vs m e3 e4 (by omega)
/-! Pascal's table -/
def pasI (m : Nat) : List Int := (List.range (m + 1)).map fun k => ((cho m k : Nat) : Int)
def pasD (m : Nat) : D := .lst ((pasI m).map .int)
def tabL (m : Nat) : List D := (List.range (m + 1)).map pasD
theorem pas_len (m : Nat) : (pasI m).length = m + 1 := by
  unfold pasI
  rw [List.length_map, List.length_range]
theorem pas_get {m k : Nat} (h : k ≤ m) : (pasI m)[k]? = some ((cho m k : Nat) : Int) := by
  unfold pasI
  rw [List.getElem?_map, List.getElem?_range (by omega)]; rfl
theorem tab_get {m k : Nat} (h : k ≤ m) : (tabL m)[k]? = some (pasD k) := by
  unfold tabL
  rw [List.getElem?_map, List.getElem?_range (by omega)]; rfl
theorem tab_len (m : Nat) : (tabL m).length = m + 1 := by
  unfold tabL
  rw [List.length_map, List.length_range]
theorem tab_snoc (m : Nat) : tabL m ++ [pasD (m + 1)] = tabL (m + 1) := by
  unfold tabL
  rw [List.range_succ (n := m + 1), List.map_append]; rfl
theorem pas_next (m : Nat) : [1] ++ ((List.range m).map fun k => ((cho m k : Nat) : Int) + ((cho m (k + 1) : Nat) : Int)) ++ [1] = pasI (m + 1) := by
  unfold pasI
  rw [List.range_succ, List.map_append, List.range_succ_eq_map, List.map_cons, List.map_map, cho_zero]
  congr 1
  show [(1 : Int)] = [((cho (m + 1) (m + 1) : Nat) : Int)]
  rw [cho_self]; rfl
def spPas : L3.Spec := fun bag n ds Φ => ∃ m : Nat, ds = [.int (m : Int)] ∧ m ≤ 100 ∧ Φ n (.lst (tabL m))
abbrev s_law_pascal : Stmt := top 24
abbrev N_law_pascal : List Str := ["many", "table", "turn", "row", "place"]
theorem sc_law_pascal : FnScope N_law_pascal ["many"] (defScope s_law_pascal) := ⟨rfl, rfl, rfl, by decide +kernel, rfl, by decide +kernel, by decide +kernel⟩

theorem ok_pas {f : Addr} {fd : FuncData} (F : Fun K "_law_pascal" "_law_pascal" s_law_pascal f fd) (T : Txt mg) : FnOk P w K mg base CX0 1 f fd ["many"] (spD K spPas) := by
  refine fn_D F sc_law_pascal (fun bag n ds Φ h => ?_) (fun cdv A outer s H E O bag n ds Φ hr h => ?_)
  · obtain ⟨m, e, _⟩ := h
    rw [e]; rfl
  · obtain ⟨m, e, hm, kk⟩ := h
    subst e
    refine ⟨_, (pss_cons (ps_set (i := 1) sc_law_pascal.nd rfl (Or.inl rfl) (pe_lst (pa_cons (pe_lst (pa_cons pe_int pa_nil)) pa_nil)))
  (pss_cons (ps_for PassesOwn.never rfl (pi_range1 (by rfl) T.b_range (pa_cons (pv 0) pa_nil)) (pg_name (i := 2) sc_law_pascal.nd rfl (Or.inl rfl)) (pss_cons (ps_set (i := 3) sc_law_pascal.nd rfl (Or.inr rfl) (pe_ix (x_ix K) (pv 1) (pv 2) (fun _ _ => rfl)))
  (pss_one (ps_expr (pe_bm PySem.F.plainAttrs_list PySem.F.slot_list_append PySem.F.type_list_append mt_append (pv 1) (pa_cons (pe_op (x_add K) (pe_op (x_add K) (pe_lst (pa_cons pe_int pa_nil)) (pe_lc (own := [("place", 4)]) (g := gName 4) (tt := tYes) rfl sc_law_pascal.nd (pi_range1 (by rfl) T.b_range (pa_cons (pe_op op_sub (pe_callB (x_len K) (by rfl) T.b_len (by decide +kernel) (pa_cons (pv 3) pa_nil)) pe_int) pa_nil)) (blkOk_by (own := [("place", 4)]) (N := N_law_pascal) (sc := defScope s_law_pascal) (by decide +kernel)) (fun _ _ _ _ _ => (pg_name (i := 4) sc_law_pascal.nd rfl (Or.inl rfl))) (fun _ _ _ _ _ => pts_nil) (fun _ _ _ _ _ => (pe_op (x_add K) (pe_ix (x_ix K) (pv 3) (pv 4) (fun _ _ => rfl)) (pe_ix (x_ix K) (pv 3) (pe_op (x_add K) (pv 4) pe_int) (fun _ _ => rfl)))))) (pe_lst (pa_cons pe_int pa_nil))) pa_nil))))))
  (pss_one (ps_ret (pv 1))))), ?_⟩
    show WS _ _ [.val (.int (m : Int)), .un, .un, .un, .un] n _
    refine ws_seq (ws_own (i := 1) (Nat.le_of_ble_eq_true rfl) (wf_lst ?_))
    walk_at "go"
    refine ⟨Nat.le_of_ble_eq_true rfl, ?_⟩
    refine wa_nil ⟨Nat.le_of_ble_eq_true rfl, ?_⟩
    refine ws_seq (ws_for ?_)
    walk_at "go"
    refine ⟨by omega, by omega, ?_⟩
    have e0 : ((m : Nat) : Int).toNat = m := by omega
    rw [e0]
    refine ⟨fun i m1 ρ => m1 = n ∧ ∃ x2 x3 x4, ρ = [.val (.int (m : Int)), .own (tabL i), x2, x3, x4], ⟨rfl, .un, .un, .un, rfl⟩, ?_, ?_⟩
    · rintro i m1 ρ1 d hd ⟨rfl, x2, x3, x4, rfl⟩
      obtain ⟨hi, rfl⟩ := rangeD_get hd
      have e1 : (0 : Int) + (i : Int) = (i : Int) := by omega
      rw [e1]
      walk_at "wg1"
      refine ws_cut (fun n1 ρ1 => n1 = m1 ∧ ρ1 = [.val (.int (m : Int)), .own (tabL i), .val (.int (i : Int)), .val (pasD i), x4]) ?_ ?_
      · refine ws_set (we_oix (i := 1) rfl ?_)
        walk_at "go"
        exact ⟨_, _, rfl, tab_get (Nat.le_refl i), rfl, rfl⟩
      rintro n1 ρ1 ⟨rfl, rfl⟩
      refine ws_append (i := 1) rfl ?_
      refine we_op (we_op ?_)
      walk_at "go"
      refine ⟨Nat.le_of_ble_eq_true rfl, ?_⟩
      refine wf_we (wf_map (fun d => .int (((cho i (intOf d).toNat : Nat) : Int) + ((cho i ((intOf d).toNat + 1) : Nat) : Int))) (fun _ => true) ?_)
      walk_at "go"
      rw [List.length_map, pas_len]
      refine ⟨by omega, by omega, ?_⟩
      have e2 : (((i + 1 : Nat) : Int) - 1).toNat = i := by omega
      rw [e2, rangeD_len]
      refine ⟨by omega, fun d hd m => ?_, ?_⟩
      · obtain ⟨j, hd⟩ := List.getElem?_of_mem hd
        obtain ⟨hj, rfl⟩ := rangeD_get hd
        have e3 : (0 : Int) + (j : Int) = (j : Int) := by omega
        rw [e3]
        walk_at "go"
        refine ⟨rfl, rfl, fun _ => ?_⟩
        walk_at "go"
        refine r2_ix (f := .int ((cho i j : Nat) : Int)) (ixD_nat (by rw [List.getElem?_map, pas_get (by omega)]; rfl)) ?_
        walk_at "go"
        refine r2_ix (f := .int ((cho i (j + 1) : Nat) : Int)) (ixD_nat (j := j + 1) (by rw [List.getElem?_map, pas_get (by omega)]; rfl)) ?_
        walk_at "go"
        exact ⟨rfl, rfl⟩
      rw [filt_all]
      have e4 : (rangeD 0 i).map (fun d => D.int (((cho i (intOf d).toNat : Nat) : Int) + ((cho i ((intOf d).toNat + 1) : Nat) : Int))) = ((List.range i).map fun k => ((cho i k : Nat) : Int) + ((cho i (k + 1) : Nat) : Int)).map D.int := by
        unfold rangeD
        rw [List.map_map, List.map_map]
        refine List.map_congr_left fun e _ => ?_
        show D.int (((cho i ((0 : Int) + (e : Int)).toNat : Nat) : Int) + ((cho i (((0 : Int) + (e : Int)).toNat + 1) : Nat) : Int)) = _
        rw [show ((0 : Int) + (e : Int)).toNat = e by omega]; rfl
      rw [e4]
      refine r2_add (add_lst (by rw [List.length_map, List.length_map, List.length_range]; show 1 + i ≤ _; omega)) ?_
      walk_at "go"
      refine ⟨Nat.le_of_ble_eq_true rfl, ?_⟩
      refine r2_add (add_lst (by rw [List.length_append, List.length_map, List.length_map, List.length_range]; show 1 + i + 1 ≤ _; omega)) ?_
      refine ⟨by rw [tab_len, sizeLine_eq]; omega, rfl, .val (.int (i : Int)), .val (pasD i), x4, ?_⟩
      have e5 : D.lst (([.int 1] ++ ((List.range i).map fun k => ((cho i k : Nat) : Int) + ((cho i (k + 1) : Nat) : Int)).map D.int) ++ [.int 1]) = pasD (i + 1) := by
        unfold pasD
        rw [← pas_next, List.map_append, List.map_append]; rfl
      rw [← tab_snoc, ← e5]; rfl
    · rintro m1 ρ1 ⟨rfl, x2, x3, x4, rfl⟩
      rw [rangeD_len]
      refine ws_freeze 1 rfl ?_
      walk_at "ws1"
      walk_at "go"
      exact kk
/-! packets by the table -/
def spLPk : L3.Spec := fun bag n ds Φ => ∃ (w1 : Nat) (vs : List Int), ds = [.int ((w1 : Int) + 1), .lst (vs.map .int)] ∧ w1 ≤ 3 ∧ vs.length ≤ 30 ∧ (∀ i ∈ vs, i.natAbs < 2 ^ 200) ∧ Φ n (.lst (encL w1 vs vs.length))
theorem encL_snoc (w1 : Nat) (vs : List Int) (i : Nat) : encL w1 vs i ++ [.tup (pkL w1 vs i w1)] = encL w1 vs (i + 1) := by
  unfold encL
  rw [List.range_succ, List.map_append]; rfl
abbrev s_law_packets : Stmt := top 25
abbrev N_law_packets : List Str := ["width", "values", "packets", "table", "place", "packet", "which", "row", "elder"]
theorem sc_law_packets : FnScope N_law_packets ["width", "values"] (defScope s_law_packets) := ⟨rfl, rfl, rfl, by decide +kernel, rfl, by decide +kernel, by decide +kernel⟩

theorem ok_lpk {f : Addr} {fd : FuncData} (F : Fun K "_law_packets" "_law_packets" s_law_packets f fd) (T : Txt mg) (D_law_pascal : Dn P w K mg base "_law_pascal" 1 ["many"] [] [] spPas) : FnOk P w K mg base CX0 2 f fd ["width", "values"] (spD K spLPk) := by
  refine fn_D F sc_law_packets (fun bag n ds Φ h => ?_) (fun cdv A outer s H E O bag n ds Φ hr h => ?_)
  · obtain ⟨w1, vs, e, _⟩ := h
    rw [e]; rfl
  · obtain ⟨w1, vs, e, h1, hl, hb, kk⟩ := h
    subst e
    refine ⟨_, (pss_cons (ps_set (i := 2) sc_law_packets.nd rfl (Or.inl rfl) (pe_lst pa_nil))
  (pss_cons (ps_set (i := 3) sc_law_packets.nd rfl (Or.inl rfl) (pe_call D_law_pascal.G (hr.mono (by decide)) (by rfl) D_law_pascal.m D_law_pascal.k D_law_pascal.b D_law_pascal.v pass0 (pa_cons (pe_op op_mulW (pe_op op_sub (pv 0) pe_int) (pe_callB (x_len K) (by rfl) T.b_len (by decide +kernel) (pa_cons (pv 1) pa_nil))) pa_nil)))
  (pss_cons (ps_for PassesOwn.never rfl (pi_range1 (by rfl) T.b_range (pa_cons (pe_callB (x_len K) (by rfl) T.b_len (by decide +kernel) (pa_cons (pv 1) pa_nil)) pa_nil)) (pg_name (i := 4) sc_law_packets.nd rfl (Or.inl rfl)) (pss_cons (ps_set (i := 5) sc_law_packets.nd rfl (Or.inl rfl) (pe_lst (pa_cons (pe_ix (x_ix K) (pv 1) (pv 4) (fun _ _ => rfl)) pa_nil)))
  (pss_cons (ps_for PassesOwn.never rfl (pi_range1 (by rfl) T.b_range (pa_cons (pe_op op_sub (pv 0) pe_int) pa_nil)) (pg_name (i := 6) sc_law_packets.nd rfl (Or.inl rfl)) (pss_cons (ps_set (i := 7) sc_law_packets.nd rfl (Or.inr rfl) (pe_ix (x_ix K) (pv 3) (pe_op (x_add K) (pe_op op_mulW (pe_op op_sub (pv 0) pe_int) (pv 4)) (pv 6)) (fun _ _ => rfl)))
  (pss_one (ps_expr (pe_bm PySem.F.plainAttrs_list PySem.F.slot_list_append PySem.F.type_list_append mt_append (pv 5) (pa_cons (pe_callB (x_sum K) (by rfl) T.b_sum (by decide +kernel) (pa_cons (pe_lc (own := [("elder", 8)]) (g := gName 8) (tt := tYes) rfl sc_law_packets.nd (pi_range1 (by rfl) T.b_range (pa_cons (pe_op (x_add K) (pv 4) pe_int) pa_nil)) (blkOk_by (own := [("elder", 8)]) (N := N_law_packets) (sc := defScope s_law_packets) (by decide +kernel)) (fun _ _ _ _ _ => (pg_name (i := 8) sc_law_packets.nd rfl (Or.inl rfl))) (fun _ _ _ _ _ => pts_nil) (fun _ _ _ _ _ => (pe_op op_mulW (pe_ix (x_ix K) (pv 7) (pe_op op_mulW (pe_op op_sub (pv 0) pe_int) (pv 8)) (fun _ _ => rfl)) (pe_ix (x_ix K) (pv 1) (pv 8) (fun _ _ => rfl))))) pa_nil)) pa_nil))))))
  (pss_one (ps_expr (pe_bm PySem.F.plainAttrs_list PySem.F.slot_list_append PySem.F.type_list_append mt_append (pv 2) (pa_cons (pe_callTy (x_tup K) (by rfl) T.b_tuple (by decide +kernel) (pa_cons (pv 5) pa_nil)) pa_nil)))))))
  (pss_one (ps_ret (pv 2)))))), ?_⟩
    show WS _ _ [.val (.int ((w1 : Int) + 1)), .val (.lst (vs.map .int)), .un, .un, .un, .un, .un, .un, .un] n _
    refine ws_seq (ws_own (i := 2) (Nat.le_of_ble_eq_true rfl) (wf_lst (wa_nil ⟨Nat.zero_le _, ?_⟩)))
    refine ws_cut (fun n1 ρ1 => n1 = n ∧ ρ1 = [.val (.int ((w1 : Int) + 1)), .val (.lst (vs.map .int)), .own [], .val (.lst (tabL (w1 * vs.length))), .un, .un, .un, .un, .un]) ?_ ?_
    · walk_at "ws1"
      walk_at "go"
      rw [List.length_map]
      refine r2_mulW (mulW (a := 60) (b := 60) (by omega) (by omega) (by decide)) ?_
      have := Nat.mul_le_mul h1 hl
      refine wa_nil ⟨w1 * vs.length, ?_, by omega, rfl, rfl⟩
      rw [show (w1 : Int) + 1 - 1 = (w1 : Int) by omega, ← Int.natCast_mul]
    rintro n1 ρ1 ⟨rfl, rfl⟩
    refine ws_seq (ws_for ?_)
    walk_at "go"
    rw [List.length_map]
    refine ⟨by omega, by omega, ?_⟩
    have e0 : ((vs.length : Nat) : Int).toNat = vs.length := by omega
    rw [e0]
    refine ⟨fun i m1 ρ => m1 = n1 ∧ ∃ x4 x5 x6 x7 x8, ρ = [.val (.int ((w1 : Int) + 1)), .val (.lst (vs.map .int)), .own (encL w1 vs i), .val (.lst (tabL (w1 * vs.length))), x4, x5, x6, x7, x8], ⟨rfl, .un, .un, .un, .un, .un, rfl⟩, ?_, ?_⟩
    · rintro p m1 ρ1 d hd ⟨rfl, x4, x5, x6, x7, x8, rfl⟩
      obtain ⟨hp, rfl⟩ := rangeD_get hd
      have e1 : (0 : Int) + (p : Int) = (p : Int) := by omega
      rw [e1]
      walk_at "wg1"
      refine ws_seq (ws_own (i := 5) (Nat.le_of_ble_eq_true rfl) (wf_lst (wa_cons ?_)))
      walk_at "go"
      refine r2_ix (f := .int (atF vs p)) (ixD_nat (by rw [List.getElem?_map, at_get hp]; rfl)) ?_
      refine wa_nil ⟨Nat.le_of_ble_eq_true rfl, ?_⟩
      refine ws_cut (fun n2 ρ1 => n2 = m1 ∧ ∃ x6 x7 x8, ρ1 = [.val (.int ((w1 : Int) + 1)), .val (.lst (vs.map .int)), .own (encL w1 vs p), .val (.lst (tabL (w1 * vs.length))), .val (.int (p : Int)), .own (pkL w1 vs p w1), x6, x7, x8]) ?_ ?_
      · refine ws_for ?_
        walk_at "go"
        refine ⟨by omega, by omega, ?_⟩
        have e2 : ((w1 : Int) + 1 - 1).toNat = w1 := by omega
        rw [e2]
        refine ⟨fun i m2 ρ => m2 = m1 ∧ ∃ x6 x7 x8, ρ = [.val (.int ((w1 : Int) + 1)), .val (.lst (vs.map .int)), .own (encL w1 vs p), .val (.lst (tabL (w1 * vs.length))), .val (.int (p : Int)), .own (pkL w1 vs p i), x6, x7, x8], ⟨rfl, x6, x7, x8, rfl⟩, ?_, ?_⟩
        · rintro i m2 ρ1 d hd ⟨rfl, x6, x7, x8, rfl⟩
          obtain ⟨hi, rfl⟩ := rangeD_get hd
          have e1 : (0 : Int) + (i : Int) = (i : Int) := by omega
          rw [e1]
          walk_at "wg1"
          have hrow := row_le h1 (show p < 30 by omega) hi
          have hrow2 : w1 * p + i ≤ w1 * vs.length := by
            have := Nat.mul_le_mul_left w1 (show p + 1 ≤ vs.length by omega)
            rw [Nat.mul_add] at this
            omega
          refine ws_cut (fun n3 ρ1 => n3 = m2 ∧ ρ1 = [.val (.int ((w1 : Int) + 1)), .val (.lst (vs.map .int)), .own (encL w1 vs p), .val (.lst (tabL (w1 * vs.length))), .val (.int (p : Int)), .own (pkL w1 vs p i), .val (.int (i : Int)), .val (pasD (w1 * p + i)), x8]) ?_ ?_
          · refine ws_set ?_
            walk_at "go"
            refine r2_mulW (mulW (a := 60) (b := 60) (by omega) (by omega) (by decide)) ?_
            walk_at "go"
            have e : ((w1 : Int) + 1 - 1) * (p : Int) + (i : Int) = ((w1 * p + i : Nat) : Int) := by
              rw [show (w1 : Int) + 1 - 1 = (w1 : Int) by omega]
              push_cast
              rfl
            rw [e]
            refine r2_ix (ixD_nat (tab_get hrow2)) ?_
            exact ⟨rfl, rfl⟩
          rintro n3 ρ1 ⟨rfl, rfl⟩
          refine ws_append (i := 5) rfl (we_cb (wa_cons (wf_we (wf_map (fun d => .int (wtF w1 p i (intOf d).toNat * atF vs (intOf d).toNat)) (fun _ => true) ?_))))
          walk_at "go"
          refine ⟨by omega, by omega, ?_⟩
          have e2 : ((p : Int) + 1).toNat = p + 1 := by omega
          rw [e2, rangeD_len]
          refine ⟨by omega, fun d hd m => ?_, ?_⟩
          · obtain ⟨j, hd⟩ := List.getElem?_of_mem hd
            obtain ⟨hj, rfl⟩ := rangeD_get hd
            have e3 : (0 : Int) + (j : Int) = (j : Int) := by omega
            rw [e3]
            walk_at "go"
            refine ⟨rfl, rfl, fun _ => ?_⟩
            walk_at "go"
            refine r2_mulW (mulW (a := 60) (b := 60) (by omega) (by omega) (by decide)) ?_
            have e : ((w1 : Int) + 1 - 1) * (j : Int) = ((w1 * j : Nat) : Int) := by
              rw [show (w1 : Int) + 1 - 1 = (w1 : Int) by omega, ← Int.natCast_mul]
            rw [e]
            have hj2 : w1 * j ≤ w1 * p + i := Nat.le_trans (Nat.mul_le_mul_left w1 (show j ≤ p by omega)) (Nat.le_add_right _ _)
            refine r2_ix (f := .int (wtF w1 p i j)) (ixD_nat (by rw [List.getElem?_map, pas_get hj2]; rfl)) ?_
            walk_at "go"
            refine r2_ix (f := .int (atF vs j)) (ixD_nat (by rw [List.getElem?_map, at_get (by omega)]; rfl)) ?_
            refine r2_mulW (mulW (a := 91) (b := 200) (wt_lt j h1 (by omega) hi) (at_bnd hb j) (by decide)) ?_
            exact ⟨rfl, rfl⟩
          rw [filt_all]
          have e4 : (rangeD 0 (p + 1)).map (fun d => D.int (wtF w1 p i (intOf d).toNat * atF vs (intOf d).toNat)) = ((List.range (p + 1)).map fun e => wtF w1 p i e * atF vs e).map .int := by
            unfold rangeD
            rw [List.map_map, List.map_map]
            refine List.map_congr_left fun e _ => ?_
            show D.int (wtF w1 p i ((0 : Int) + (e : Int)).toNat * atF vs ((0 : Int) + (e : Int)).toNat) = _
            rw [show ((0 : Int) + (e : Int)).toNat = e by omega]; rfl
          rw [e4]
          refine wa_nil (rc_sum ?_)
          refine ⟨by unfold pkL; rw [List.length_map, List.length_cons, List.length_map, List.length_range, sizeLine_eq]; omega, rfl, .val (.int (i : Int)), .val (pasD (w1 * p + i)), x8, ?_⟩
          rw [← pkL_snoc]; rfl
        · rintro m2 ρ1 ⟨rfl, x6, x7, x8, rfl⟩
          rw [rangeD_len]
          exact ⟨rfl, x6, x7, x8, rfl⟩
      clear x6 x7 x8
      rintro n2 ρ1 ⟨rfl, x6, x7, x8, rfl⟩
      refine ws_freeze 5 rfl ?_
      refine ws_append (i := 2) rfl ?_
      walk_at "go"
      refine rc_tup rfl ?_
      refine ⟨by unfold encL; rw [List.length_map, List.length_range, sizeLine_eq]; omega, rfl, .val (.int (p : Int)), .val (.lst (pkL w1 vs p w1)), x6, x7, x8, ?_⟩
      rw [← encL_snoc]; rfl
    · rintro m1 ρ1 ⟨rfl, x4, x5, x6, x7, x8, rfl⟩
      rw [rangeD_len]
      refine ws_freeze 2 rfl ?_
      walk_at "ws1"
      walk_at "go"
      exact kk

end
end Toy
namespace Toy
open PySem L2 L3
local macro_rules | `(tactic| walk_at "we1") => `(tactic| first
  | ((with_reducible refine' we_var ?hv ?_); (case hv => rfl))
  | (with_reducible refine we_int ?_)
  | (with_reducible refine we_str ?_)
  | (with_reducible refine we_bl ?_)
  | (with_reducible refine we_non ?_)
  | ((with_reducible refine' we_dix ?hv ?_); (case hv => rfl))
  | (with_reducible refine we_op ?_)
  | ((with_reducible refine' we_dget ?hv ?_); (case hv => rfl))
  | (with_reducible refine we_count ?_)
  | (with_reducible refine we_cb ?_)
  | (with_reducible refine we_call0 ?_)
  | (with_reducible refine we_tup ?_)
  | (with_reducible refine we_lst ?_)
  | (with_reducible refine we_if ?_)
  | (with_reducible refine we_not ?_)
  | (with_reducible refine we_and ?_)
  | (with_reducible refine we_or ?_)
  | (with_reducible refine we_isN ?_)
  | (with_reducible refine we_notN ?_)
  | (with_reducible refine we_sl ?_)
  | (with_reducible refine wa_cons ?_)
  | (with_reducible refine wa_nil ?_)
  | (with_reducible refine wt_test ?_)
  | (with_reducible refine wt_B ?_)
  | (with_reducible refine wt_and ?_)
  | (with_reducible refine wt_or ?_)
  | (with_reducible refine wt_not ?_)
  | (with_reducible refine wt_yes ?_)
  | (with_reducible refine wo_none ?_)
  | (with_reducible refine wo_some ?_)
  | ((with_reducible refine' r2_ix ?hx ?_); (case hx => rfl))
  | (with_reducible refine r2_isN ?_)
  | (with_reducible refine r2_notN ?_)
  | (with_reducible refine r2_lt ?_)
  | (with_reducible refine r2_le ?_)
  | (with_reducible refine r2_gt ?_)
  | (with_reducible refine r2_ge ?_)
  | (with_reducible refine r2_sub ?_)
  | (with_reducible refine r2_addI ?_)
  | (with_reducible refine r2_eqI ?_)
  | (with_reducible refine r2_neI ?_)
  | (with_reducible refine rc_int ?_)
  | (with_reducible refine rc_abs ?_)
  | ((with_reducible refine' rc_len ?hl ?_); (case hl => rfl))
  | (with_reducible refine wi_seq ?_)
  | (with_reducible refine wi_rng1 ?_)
  | (with_reducible refine wi_rng2 ?_)
  | (with_reducible refine wi_enum ?_)
  | (refine ⟨_, rfl, ?_⟩))
local macro_rules | `(tactic| walk_at "ws1") => `(tactic| first
  | (with_reducible refine ws_seq ?_)
  | (with_reducible refine ws_set ?_)
  | (with_reducible refine ws_ret ?_)
  | (with_reducible refine ws_if ?_)
  | (with_reducible refine ws_next ?_)
  | (with_reducible refine ws_asg ?_))
local macro_rules | `(tactic| walk_at "wg1") => `(tactic| first
  | (with_reducible refine wg_name (rw_name (by decide)) ?_)
  | (with_reducible refine wg_name (fun _ _ => trivial) ?_)
  | ((with_reducible refine' wg_tup ?hl ?_); (case hl => rfl))
  | (with_reducible refine wgs_cons rw_trans ?_)
  | (with_reducible refine wgs_nil rw_refl ?_)
  | (with_reducible refine wgs_cons (fun _ _ _ _ _ => trivial) ?_)
  | (with_reducible refine wgs_nil (fun _ => trivial) ?_))
local macro_rules | `(tactic| walk_at "go") => `(tactic| repeat' (first | walk_at "we1" | walk_at "wg1"))
section
variable {P : Program} {w : World} {K : PySem.W.Frag} {mg : Str → Option Value} {base : Heap}

/-! what is refused -/
def spBadL (CB : Addr) : SpecL := fun n A Φ => A n (fun n' _ => Φ n' .non) (fun n' C ks => C = CB ∧ ∃ x, ks = xWhat x ∧ Φ n' (.str x))
abbrev s_law_bad_stream : Stmt := top 26
abbrev N_law_bad_stream : List Str := ["what", "error"]
theorem sc_law_bad_stream : FnScope N_law_bad_stream ["what"] (defScope s_law_bad_stream) := ⟨rfl, rfl, rfl, by decide +kernel, rfl, by decide +kernel, by decide +kernel⟩

theorem gives_law_bad_stream {X : Cx} {g CA : Addr} {cdg : Value} {q : Str} (T : Txt mg) (X_BadStream : XnS P w K mg base "BadStream" ["what"]) (gA : mg "AskedError" = some (.ref CA)) (EC : ErC K X_BadStream.C) (hk : PySem.W.kitOne K (.ref X_BadStream.C) (.ref CA) = some true) (e1 : X.prog = P) (e2 : X.w = w) (e3 : X.K = K) (e4 : X.mg = mg) (e5 : X.base = base) :
    LamX.GivesTo X N_law_bad_stream "_law_bad_stream" (defScope s_law_bad_stream) g cdg (defBody s_law_bad_stream) "what" q (TTd K (spBadL X_BadStream.C)) := by
  subst e1 e2 e3 e4 e5
  intro f c' s H Q tl act hc h
  obtain ⟨O, bag, n, A, Φ, hb, hO, hS, hA, q0⟩ := h
  refine ⟨_, pss_cons (ps_try (i := 1) rfl rfl sc_law_bad_stream.nd rfl rfl ⟨rfl, by decide, Or.inl X_BadStream.m⟩ takes0
    (fun W pn xe tk po => pss_one (ps_expr (act (WL W 2) pn xe (EL W 2) _ _ (takesL rfl tk) (el_wl _ _))))
    (fun a oe cls d pn hz hf => pss_one (ps_ret (pe_ifExp (pt_val (pe_callB (call_isED X.K hz hf) (by rfl) T.b_isinstance (by decide +kernel) (pa_cons (pv 1) (pa_cons (pe_glob (v := .ref CA) (by rfl) gA rfl) pa_nil)))) (pe_xf X_BadStream.xf (X_BadStream.no _ (by decide)) hz hf (pv 1)) pe_str))))
    (pss_one (ps_ret pe_non)), ?_⟩
  refine act_try (N := N_law_bad_stream) (i := 1) (P := X.prog) (w := X.w) hb hO hA hc rfl hS (fun n' d k => ?_) (fun n' C ks k => ?_) q0
  · refine ws_ret ?_
    walk_at "go"
    exact k
  · obtain ⟨rfl, x, rfl, k⟩ := k
    refine ⟨X_BadStream.te, fun H0' dx a hd => ?_⟩
    refine ws_ret (we_if (wt_test (we_isED hd EC hk (wa_cons (we_var rfl (wa_cons (we_const (fun H => .adr _) (wa_nil ⟨rfl, ?_⟩))))))))
    refine ⟨_, rfl, itT rfl ?_⟩
    refine we_xf hd (we_var rfl ?_)
    exact ⟨rfl, _, rfl, k⟩

end
end Toy
namespace Toy
open PySem L2 L3
local macro_rules | `(tactic| walk_at "we1") => `(tactic| first
  | ((with_reducible refine' we_var ?hv ?_); (case hv => rfl))
  | (with_reducible refine we_int ?_)
  | (with_reducible refine we_str ?_)
  | (with_reducible refine we_bl ?_)
  | (with_reducible refine we_non ?_)
  | ((with_reducible refine' we_dix ?hv ?_); (case hv => rfl))
  | (with_reducible refine we_op ?_)
  | ((with_reducible refine' we_dget ?hv ?_); (case hv => rfl))
  | (with_reducible refine we_count ?_)
  | (with_reducible refine we_cb ?_)
  | (with_reducible refine we_call0 ?_)
  | (with_reducible refine we_tup ?_)
  | (with_reducible refine we_lst ?_)
  | (with_reducible refine we_if ?_)
  | (with_reducible refine we_not ?_)
  | (with_reducible refine we_and ?_)
  | (with_reducible refine we_or ?_)
  | (with_reducible refine we_isN ?_)
  | (with_reducible refine we_notN ?_)
  | (with_reducible refine we_sl ?_)
  | (with_reducible refine wa_cons ?_)
  | (with_reducible refine wa_nil ?_)
  | (with_reducible refine wt_test ?_)
  | (with_reducible refine wt_B ?_)
  | (with_reducible refine wt_and ?_)
  | (with_reducible refine wt_or ?_)
  | (with_reducible refine wt_not ?_)
  | (with_reducible refine wt_yes ?_)
  | (with_reducible refine wo_none ?_)
  | (with_reducible refine wo_some ?_)
  | ((with_reducible refine' r2_ix ?hx ?_); (case hx => rfl))
  | (with_reducible refine r2_isN ?_)
  | (with_reducible refine r2_notN ?_)
  | (with_reducible refine r2_lt ?_)
  | (with_reducible refine r2_le ?_)
  | (with_reducible refine r2_gt ?_)
  | (with_reducible refine r2_ge ?_)
  | (with_reducible refine r2_sub ?_)
  | (with_reducible refine r2_addI ?_)
  | (with_reducible refine r2_eqI ?_)
  | (with_reducible refine r2_neI ?_)
  | (with_reducible refine rc_int ?_)
  | (with_reducible refine rc_abs ?_)
  | ((with_reducible refine' rc_len ?hl ?_); (case hl => rfl))
  | (with_reducible refine wi_seq ?_)
  | (with_reducible refine wi_rng1 ?_)
  | (with_reducible refine wi_rng2 ?_)
  | (with_reducible refine wi_enum ?_)
  | (refine ⟨_, rfl, ?_⟩))
local macro_rules | `(tactic| walk_at "ws1") => `(tactic| first
  | (with_reducible refine ws_seq ?_)
  | (with_reducible refine ws_set ?_)
  | (with_reducible refine ws_ret ?_)
  | (with_reducible refine ws_if ?_)
  | (with_reducible refine ws_next ?_)
  | (with_reducible refine ws_asg ?_))
local macro_rules | `(tactic| walk_at "wg1") => `(tactic| first
  | (with_reducible refine wg_name (rw_name (by decide)) ?_)
  | (with_reducible refine wg_name (fun _ _ => trivial) ?_)
  | ((with_reducible refine' wg_tup ?hl ?_); (case hl => rfl))
  | (with_reducible refine wgs_cons rw_trans ?_)
  | (with_reducible refine wgs_nil rw_refl ?_)
  | (with_reducible refine wgs_cons (fun _ _ _ _ _ => trivial) ?_)
  | (with_reducible refine wgs_nil (fun _ => trivial) ?_))
local macro_rules | `(tactic| walk_at "go") => `(tactic| repeat' (first | walk_at "we1" | walk_at "wg1"))
section
variable {P : Program} {w : World} {K : PySem.W.Frag} {mg : Str → Option Value} {base : Heap}

theorem WEX.mono {c : L3.Ctx} {T : List (Addr × Str)} {te : TE} {ρ : List SD} {n : Nat} {Φ Φ' : Nat → D → Prop} (h : WEX c T te ρ n Φ) (k : ∀ n d, Φ n d → Φ' n d) : WEX c T te ρ n Φ' := fun P L σ H Q hP E tb q => h P L σ H Q hP E tb fun v d n' H' L' E' t' r kk => q v d n' H' L' E' t' r (k _ _ kk)
theorem we_lamR {c : L3.Ctx} {T : List (Addr × Str)} {ρ : List SD} {n : Nat} {Φ : Nat → D → Prop} {t : XK → TE} {S : SpecL} (Φ' : Nat → D → Prop) (X : LamCx c) (no : ρ.all okSlot = true) (h : S n (LamP c t ρ) Φ') (k : ∀ n d, Φ' n d → Φ n d) : WEX c T (LamX.tLam T (TTd c.K S) t) ρ n Φ := WEX.mono (we_lamX X no h) k
theorem ws_forget {c : L3.Ctx} {ts : TS} {ρ : List SD} {n : Nat} {Ψ : Out} (i : Nat) (h : WS c ts (ρ.set i .un) n Ψ) : WS c ts ρ n Ψ := fun P L σ H Dn E A => by
  obtain ⟨Ls, sl, sb⟩ := E.slots
  obtain ⟨L', s, sub⟩ := sl.drop i
  exact h P L σ H Dn (E.reslot s (sub.trans sb)) A
theorem ok_putQ {f C CB : Addr} {fd : FuncData} (F : Fun K "put" "Coder.put" s_Coder_put f fd) (T : Txt mg) (TC : CoT K C) (R_Coder2 : Mnx P w K mg base C "Coder" 4 ["self", "width", "stream"] [] [] (spCoderX CB)) : FnOk P w K mg base CX0 6 f fd ["self", "value"] (spD K (spPut C)) := ok_putC (ok_put F T TC R_Coder2)
def noTb (H : Hp) : Hp := fun a => match H a with
  | some (.tbl _) => none
  | o => o
theorem noTb_no (H : Hp) : NoT (noTb H) := fun a ps h => by
  unfold noTb at h
  split at h
  · cases h
  · rename_i hn
    exact hn ps h
theorem noTb_same (H : Hp) : Same (noTb H) H := fun a o h => by
  unfold noTb at h
  split at h
  · cases h
  · exact h
theorem noTb_of {H : Hp} {a : Addr} {o : HO} (h : H a = some o) (nt : notTB o = true) : noTb H a = some o := by
  unfold noTb
  rw [h]
  split
  · rename_i ps e
    cases e
    cases nt
  · rfl
/-! ### the law -/
def optS : Option Str → D
  | none => .non
  | some x => .str x
theorem fit_enc (w1 : Nat) (vs : List Int) (m : Nat) : fit (.tup (encL w1 vs m)) = true := by
  have : encL w1 vs m = ((List.range m).map (pktF w1 vs)).map fun r => .tup (r.map D.int) := by
    unfold encL
    rw [List.map_map]; rfl
  rw [this]
  exact fit_rows _
theorem fit_optF (a v : D) : fit (optS (faultS a v)) = true := by
  unfold faultS
  split
  · decide +kernel
  split
  · decide +kernel
  · rfl
theorem noLst_ints (vs : List Int) : noLstAll (vs.map .int) = true := by
  induction vs with
  | nil => rfl
  | cons v vs ih => exact ih
theorem cut_from {xs : List D} {i : Nat} (h : i ≤ xs.length) : cutD xs (some (i : Int)) none = xs.drop i := by
  unfold cutD
  have e : HT.sIx xs.length 0 (some (i : Int)) = i := by rw [HT.sIx_nat]; omega
  have e0 : HT.sIx xs.length xs.length none = xs.length := rfl
  rw [e, e0]
  exact List.take_of_length_le (by rw [List.length_drop]; omega)
def row30 : List Int := (List.range 30).map fun i : Nat => ((i : Nat) : Int)
theorem row30_len : row30.length = 30 := rfl
theorem row30_b : ∀ i ∈ row30, i.natAbs < 2 ^ 200 := fun i hi => by
  obtain ⟨k, hk, rfl⟩ := List.mem_map.mp hi
  have := List.mem_range.mp hk
  have h : ((k : Nat) : Int).natAbs < 30 := by omega
  exact Nat.lt_trans h (by decide +kernel)
theorem rangeD_map (m : Nat) : (rangeD 0 m).map id = ((List.range m).map fun i : Nat => ((i : Nat) : Int)).map D.int := by
  unfold rangeD
  rw [List.map_id, List.map_map]
  refine List.map_congr_left fun e _ => ?_
  show D.int ((0 : Int) + (e : Int)) = _
  rw [show (0 : Int) + (e : Int) = (e : Int) by omega]; rfl
/-- an odd thing: no whole number -/
structure OddD (d : D) : Prop where
  th : thg d = true
  no : wholeD d = false
/-- a width that is refused, or the right one -/
def WidD (w1 : Nat) (d : D) : Prop := d = .int ((w1 : Int) + 1) ∨ (thg d = true ∧ fit d = true ∧ ftD d 1 4 = false ∧ (eqD d (.int ((w1 : Int) + 1)) = false ∨ isBoolD d = true))
theorem wid_th {w1 : Nat} {d : D} (h : WidD w1 d) : thg d = true := by
  rcases h with rfl | h
  · rfl
  · exact h.1
theorem ft_ok {w1 : Nat} (h : w1 ≤ 3) : ftD (.int ((w1 : Int) + 1)) 1 4 = true := by
  show (decide ((1 : Int) ≤ (w1 : Int) + 1) && decide ((w1 : Int) + 1 ≤ 4)) = true
  rw [decide_eq_true (by omega), decide_eq_true (by omega)]; rfl
/-- what is drawn for the values, one's own or not -/
def HasD (x : SD) (d : D) : Prop := x = .val d ∨ ∃ bs, x = .own bs ∧ d = .lst bs
theorem ws_has {c : L3.Ctx} {ts : TS} {ρ : List SD} {n : Nat} {Ψ : Out} {x : SD} {d : D} (i : Nat) (hx : HasD x d) (h0 : ρ[i]? = some x) (h : WS c ts (ρ.set i (.val d)) n Ψ) : WS c ts ρ n Ψ := by
  rcases hx with e | ⟨bs, e, e2⟩
  · subst e
    obtain ⟨hi, e⟩ := List.getElem?_eq_some_iff.mp h0
    rw [← e, List.set_getElem_self hi] at h
    exact h
  · subst e
    subst e2
    exact ws_freeze i h0 h
theorem word_val {w1 : Nat} {bv : D} (h1 : w1 ≤ 3) {kd : Int} (hv : valsB bv = decide (3 ≤ kd)) : optS (faultS (.int ((w1 : Int) + 1)) bv) = if kd < 3 then D.str "values" else .non := by
  by_cases q : kd < 3
  · rw [if_pos q, fault_v (ft_ok h1) (by rw [hv]; exact decide_eq_false (by omega))]; rfl
  · rw [if_neg q, fault_no (ft_ok h1) (by rw [hv]; exact decide_eq_true (by omega))]; rfl
theorem word_wid {bw bv : D} (h : ftD bw 1 4 = false) : optS (faultS bw bv) = .str "width" := by
  rw [fault_w h]; rfl
theorem all_odd {xs ys : List D} {d : D} (h : wholeD d = false) : (xs ++ [d] ++ ys).all wholeD = false := by
  rw [List.all_append, List.all_append, List.all_cons, h]; simp
abbrev s_law : Stmt := top 27
abbrev N_law : List Str := ["script", "bag", "width", "count", "values", "due", "cut", "given", "coder", "early", "value", "odd", "bad_width", "bad_values", "kind", "word", "full"]
theorem sc_law : FnScope N_law ["script"] (defScope s_law) := ⟨rfl, rfl, rfl, by decide +kernel, rfl, by decide +kernel, by decide +kernel⟩

abbrev UN15 : List SD := List.replicate 15 .un
theorem ok_law {f Pt CC CA c : Addr} {fd : FuncData} {dw1 : List Value} {E1 g1 : Addr} (F : FunC K "law" "law" s_law f fd c) (TB : LamX.TabB base mg c Pt) (T : Txt mg) (hE1 : ∀ H, Rp K H (.ref E1) (.tup [])) (TC : CoT K CC)
    (X_BadStream : XnS P w K mg base "BadStream" ["what"]) (gA : mg "AskedError" = some (.ref CA)) (EC : ErC K X_BadStream.C) (hk : PySem.W.kitOne K (.ref X_BadStream.C) (.ref CA) = some true) (L_law_bad_stream : Dl K mg "_law_bad_stream" "what" s_law_bad_stream g1)
    (D_law_bag : Dr P w K mg base "_law_bag" 1 ["script"] (spBag K)) (D_law_draw : Dn P w K mg base "_law_draw" 1 ["bag", "limit"] [] [] spDraw) (D_law_number_row : Dn P w K mg base "_law_number_row" 3 ["bag", "count"] [] [] spNums) (D_law_packets : Dn P w K mg base "_law_packets" 2 ["width", "values"] [] [] spLPk)
    (D_encode : Dn P w K mg base "encode" 4 ["width", "values"] [] [] spEnc) (R_encode : Dx P w K mg base "encode" 4 ["width", "values"] (spEncX X_BadStream.C)) (R_Coder2 : Mnx P w K mg base CC "Coder" 4 ["self", "width", "stream"] [] [] (spCoderX X_BadStream.C)) (R_Coder1 : Mnx P w K mg base CC "Coder" 4 ["self", "width", "stream"] [.ref E1] dw1 (spCoderX X_BadStream.C))
    (R_CoderK : Mnk P w K mg base CC "Coder" 4 ["self", "width", "stream"] ["stream"] 1 (spCoderX X_BadStream.C)) (O_Coder : On P w K mg base CC 1 ["self", "other"] (spEqC CC)) (Q_put : Mt P w K mg base CC "put" 6 ["self", "value"] (spPut CC)) (S_put : Mx P w K mg base CC "put" 6 ["self", "value"] (spPutX X_BadStream.C CC)) (Q_packets : Mt P w K mg base CC "packets" 5 ["self"] (spPks CC)) :
    FnOk P w K mg base CX0 11 f fd ["script"] (spLawT K Pt) := by
  refine F.ok sc_law (fun vs H Q E h => ?_) (fun A outer s H vs Q E hr h => ?_)
  · obtain ⟨a, ns, rfl, _⟩ := h
    rfl
  · obtain ⟨a, ns, rfl, hS, hlen, hP, k⟩ := h
    refine ⟨_, (pss_cons (ps_set (i := 1) sc_law.nd rfl (Or.inl rfl) (pe_call D_law_bag.G (hr.mono (by decide)) (by rfl) D_law_bag.m D_law_bag.k D_law_bag.b D_law_bag.v pass0 (pa_cons (pv 0) pa_nil)))
  (pss_cons (ps_set (i := 2) sc_law.nd rfl (Or.inl rfl) (pe_op (x_add K) pe_int (pe_call D_law_draw.G (hr.mono (by decide)) (by rfl) D_law_draw.m D_law_draw.k D_law_draw.b D_law_draw.v pass0 (pa_cons (pv 1) (pa_cons pe_int pa_nil)))))
  (pss_cons (ps_set (i := 3) sc_law.nd rfl (Or.inl rfl) (pe_call D_law_draw.G (hr.mono (by decide)) (by rfl) D_law_draw.m D_law_draw.k D_law_draw.b D_law_draw.v pass0 (pa_cons (pv 1) (pa_cons (pe_ix (x_ix K) (pe_lst (pa_cons pe_int (pa_cons pe_int (pa_cons pe_int (pa_cons pe_int pa_nil))))) (pe_call D_law_draw.G (hr.mono (by decide)) (by rfl) D_law_draw.m D_law_draw.k D_law_draw.b D_law_draw.v pass0 (pa_cons (pv 1) (pa_cons pe_int pa_nil))) (fun _ _ => rfl)) pa_nil))))
  (pss_cons (ps_set (i := 4) sc_law.nd rfl (Or.inl rfl) (pe_call D_law_number_row.G (hr.mono (by decide)) (by rfl) D_law_number_row.m D_law_number_row.k D_law_number_row.b D_law_number_row.v pass0 (pa_cons (pv 1) (pa_cons (pv 3) pa_nil))))
  (pss_cons (ps_set (i := 5) sc_law.nd rfl (Or.inl rfl) (pe_callTy (x_tup K) (by rfl) T.b_tuple (by decide +kernel) (pa_cons (pe_call D_law_packets.G (hr.mono (by decide)) (by rfl) D_law_packets.m D_law_packets.k D_law_packets.b D_law_packets.v pass0 (pa_cons (pv 2) (pa_cons (pv 4) pa_nil))) pa_nil)))
  (pss_cons (ps_if (PW.pt (pw_or (pt_cmpR (x_ne K (by exact hr.units)) (pe_call D_encode.G (hr.mono (by decide)) (by rfl) D_encode.m D_encode.k D_encode.b D_encode.v pass0 (pa_cons (pv 2) (pa_cons (pv 4) pa_nil))) (pv 5) (nomark _)) (pw_or1 (pt_cmpR (x_ne K (by exact hr.units)) (pe_call D_encode.G (hr.mono (by decide)) (by rfl) D_encode.m D_encode.k D_encode.b D_encode.v pass0 (pa_cons (pv 2) (pa_cons (pe_callTy (x_tup K) (by rfl) T.b_tuple (by decide +kernel) (pa_cons (pv 4) pa_nil)) pa_nil))) (pv 5) (nomark _))))) (pss_one (ps_ret pe_bl)) pss_nil)
  (pss_cons (ps_set (i := 6) sc_law.nd rfl (Or.inl rfl) (pe_call D_law_draw.G (hr.mono (by decide)) (by rfl) D_law_draw.m D_law_draw.k D_law_draw.b D_law_draw.v pass0 (pa_cons (pv 1) (pa_cons (pe_op (x_add K) (pv 3) pe_int) pa_nil))))
  (pss_cons (ps_set (i := 7) sc_law.nd rfl (Or.inl rfl) (pe_slice (x_sl K) (pv 4) po_none (po_some (pv 6))))
  (pss_cons (ps_set (i := 8) sc_law.nd rfl (Or.inr rfl) (pe_make R_Coder2.M R_Coder2.G (hr.mono (by decide)) (by rfl) R_Coder2.m R_Coder2.b R_Coder2.v (passes_call takes0 (fun _ _ _ _ h => h)) (pa_cons (pv 2) (pa_cons (pv 7) pa_nil))))
  (pss_cons (ps_expr (pe_bm PySem.F.plainAttrs_list PySem.F.slot_list_append PySem.F.type_list_append mt_append (pv 7) (pa_cons pe_int pa_nil)))
  (pss_cons (ps_set (i := 9) sc_law.nd rfl (Or.inl rfl) (pv 8))
  (pss_cons (ps_for PassesOwn.never rfl (x_seq K (pe_slice (x_sl K) (pv 4) (po_some (pv 6)) po_none)) (pg_name (i := 10) sc_law.nd rfl (Or.inl rfl)) (pss_one (ps_set (i := 8) sc_law.nd rfl (Or.inr rfl) (pe_meth (pv 8) Q_put.cl Q_put.me Q_put.G (hr.mono (by decide)) Q_put.b .nil pass0 (pa_cons (pv 10) pa_nil)))))
  (pss_cons (ps_if (PW.pt (pw_or (pt_cmpR (x_ne K (by exact hr.units)) (pe_meth0 (pv 8) Q_packets.cl Q_packets.me Q_packets.G (hr.mono (by decide)) Q_packets.b .nil pass0) (pv 5) (nomark _)) (pw_or (pt_cmpR (x_ne K (by exact hr.units)) (x_fld K (pe_fld (pv 8) rfl)) (pe_callTy (x_tup K) (by rfl) T.b_tuple (by decide +kernel) (pa_cons (pv 4) pa_nil)) (nomark _)) (pw_or (pt_cmpR (x_ne K (by exact hr.units)) (x_fld K (pe_fld (pv 8) rfl)) (pv 2) (nomark _)) (pw_or1 (pt_not (pt_cmpR (op_ownEq O_Coder.G O_Coder.T (hr.mono (by decide)) O_Coder.b pass0) (pv 8) (pe_make R_Coder2.M R_Coder2.G (hr.mono (by decide)) (by rfl) R_Coder2.m R_Coder2.b R_Coder2.v (passes_call takes0 (fun _ _ _ _ h => h)) (pa_cons (pv 2) (pa_cons (pv 4) pa_nil))) (nomark _)))))))) (pss_one (ps_ret pe_bl)) pss_nil)
  (pss_cons (ps_if (PW.pt (pw_or (pt_cmpR (x_ne K (by exact hr.units)) (pe_meth0 (pv 9) Q_packets.cl Q_packets.me Q_packets.G (hr.mono (by decide)) Q_packets.b .nil pass0) (pe_slice (x_sl K) (pv 5) po_none (po_some (pv 6))) (nomark _)) (pw_or1 (pt_cmpR (x_ne K (by exact hr.units)) (x_fld K (pe_fld (pv 9) rfl)) (pe_callTy (x_tup K) (by rfl) T.b_tuple (by decide +kernel) (pa_cons (pe_slice (x_sl K) (pv 4) po_none (po_some (pv 6))) pa_nil)) (nomark _))))) (pss_one (ps_ret pe_bl)) pss_nil)
  (pss_cons (ps_if (PW.pt (pw_and (pt_cmpR op_lt (pv 6) (pv 3) (nomark _)) (pw_and1 (pt_cmpR (op_ownEq O_Coder.G O_Coder.T (hr.mono (by decide)) O_Coder.b pass0) (pv 9) (pv 8) (nomark _))))) (pss_one (ps_ret pe_bl)) pss_nil)
  (pss_cons (ps_if (PW.pt (pw_or (pt_cmpR (x_ne K (by exact hr.units)) (pe_meth0 (pe_make R_Coder1.M R_Coder1.G (hr.mono (by decide)) (by rfl) R_Coder1.m R_Coder1.b R_Coder1.v (passes_call takes0 (fun _ _ _ _ h => h)) (pa_cons (pv 2) pa_nil)) Q_packets.cl Q_packets.me Q_packets.G (hr.mono (by decide)) Q_packets.b .nil pass0) (pe_tup pa_nil) (nomark _)) (pw_or1 (pt_cmpR (op_ownNe O_Coder.G O_Coder.T (hr.mono (by decide)) O_Coder.b pass0) (pe_meth (pe_make R_Coder1.M R_Coder1.G (hr.mono (by decide)) (by rfl) R_Coder1.m R_Coder1.b R_Coder1.v (passes_call takes0 (fun _ _ _ _ h => h)) (pa_cons (pv 2) pa_nil)) Q_put.cl Q_put.me Q_put.G (hr.mono (by decide)) Q_put.b .nil pass0 (pa_cons pe_int pa_nil)) (pe_makeN R_CoderK.M R_CoderK.G (hr.mono (by decide)) (by rfl) R_CoderK.m R_CoderK.kb (passes_call takes0 (fun _ _ _ _ h => h)) (pa_cons (pv 2) pa_nil) (pk_cons (pe_lst (pa_cons pe_int pa_nil)) pk_nil)) (nomark _))))) (pss_one (ps_ret pe_bl)) pss_nil)
  (pss_cons (ps_set (i := 11) sc_law.nd rfl (Or.inr rfl) (pe_ix (x_ix K) (pe_lst (pa_cons pe_bl (pa_cons pe_non (pa_cons pe_str (pa_cons (pe_tup (pa_cons pe_int pa_nil)) (pa_cons (pe_lst (pa_cons pe_int pa_nil)) pa_nil)))))) (pe_call D_law_draw.G (hr.mono (by decide)) (by rfl) D_law_draw.m D_law_draw.k D_law_draw.b D_law_draw.v pass0 (pa_cons (pv 1) (pa_cons pe_int pa_nil))) (fun _ _ => rfl)))
  (pss_cons (ps_set (i := 12) sc_law.nd rfl (Or.inr rfl) (pe_ifExp (pt_cmpR (x_eq K (by exact hr.units)) (pe_call D_law_draw.G (hr.mono (by decide)) (by rfl) D_law_draw.m D_law_draw.k D_law_draw.b D_law_draw.v pass0 (pa_cons (pv 1) (pa_cons pe_int pa_nil))) pe_int (nomark _)) (pe_ix (x_ix K) (pe_lst (pa_cons pe_int (pa_cons pe_int (pa_cons pe_bl (pa_cons pe_non (pa_cons pe_str (pa_cons (pe_op op_sub pe_int pe_int) pa_nil))))))) (pe_call D_law_draw.G (hr.mono (by decide)) (by rfl) D_law_draw.m D_law_draw.k D_law_draw.b D_law_draw.v pass0 (pa_cons (pv 1) (pa_cons pe_int pa_nil))) (fun _ _ => rfl)) (pv 2)))
  (pss_cons (ps_set (i := 13) sc_law.nd rfl (Or.inr rfl) (pe_callTy (x_list K) (by rfl) T.b_list (by decide +kernel) (pa_cons (pv 4) pa_nil)))
  (pss_cons (ps_set (i := 14) sc_law.nd rfl (Or.inl rfl) (pe_call D_law_draw.G (hr.mono (by decide)) (by rfl) D_law_draw.m D_law_draw.k D_law_draw.b D_law_draw.v pass0 (pa_cons (pv 1) (pa_cons pe_int pa_nil))))
  (pss_cons (ps_if (pt_cmpR (x_eq K (by exact hr.units)) (pv 14) pe_int (nomark _)) (pss_one (ps_expr (pe_bm PySem.F.plainAttrs_list PySem.F.slot_list_insert PySem.F.type_list_insert mt_insert (pv 13) (pa_cons (pe_call D_law_draw.G (hr.mono (by decide)) (by rfl) D_law_draw.m D_law_draw.k D_law_draw.b D_law_draw.v pass0 (pa_cons (pv 1) (pa_cons (pe_op (x_add K) (pv 3) pe_int) pa_nil))) (pa_cons (pv 11) pa_nil))))) (pss_one (ps_if (pt_cmpR (x_eq K (by exact hr.units)) (pv 14) pe_int (nomark _)) (pss_one (ps_set (i := 13) sc_law.nd rfl (Or.inr rfl) (pe_ix (x_ix K) (pe_lst (pa_cons pe_non (pa_cons pe_str (pa_cons pe_int (pa_cons pe_dnewK pa_nil))))) (pe_call D_law_draw.G (hr.mono (by decide)) (by rfl) D_law_draw.m D_law_draw.k D_law_draw.b D_law_draw.v pass0 (pa_cons (pv 1) (pa_cons pe_int pa_nil))) (fun _ _ => rfl)))) (pss_one (ps_if (pt_cmpR (x_eq K (by exact hr.units)) (pv 14) pe_int (nomark _)) (pss_one (ps_set (i := 13) sc_law.nd rfl (Or.inr rfl) (pe_lc (own := [("value", 10)]) (g := gName 10) (tt := tYes) rfl sc_law.nd (pi_range1 (by rfl) T.b_range (pa_cons pe_int pa_nil)) (blkOk_by (own := [("value", 10)]) (N := N_law) (sc := defScope s_law) (by decide +kernel)) (fun _ _ _ _ _ => (pg_name (i := 10) sc_law.nd rfl (Or.inl rfl))) (fun _ _ _ _ _ => pts_nil) (fun _ _ _ _ _ => (pv 10))))) pss_nil)))))
  (pss_cons (ps_set (i := 15) sc_law.nd rfl (Or.inl rfl) (pe_ifExp (PW.pt (pw_or (pt_cmpR (x_ne K (by exact hr.units)) (pv 12) (pv 2) (nomark _)) (pw_or1 (pt_val (pe_callB (x_isi K) (by rfl) T.b_isinstance (by decide +kernel) (pa_cons (pv 12) (pa_cons (pe_bltn (v := .ty "bool") (by rfl) T.b_bool (by decide +kernel) rfl) pa_nil))))))) pe_str (pe_ifExp (pt_cmpR op_lt (pv 14) pe_int (nomark _)) pe_str pe_non)))
  (pss_cons (ps_if (pt_cmpR (x_ne K (by exact hr.units)) (L3.pe_lam (k := 8) (TT := TTd K (spBadL X_BadStream.C)) (by rfl) L_law_bad_stream sc_law_bad_stream rfl (Or.inl rfl) (fun _ => by exact gives_law_bad_stream T X_BadStream gA EC hk rfl rfl rfl rfl rfl) TB rfl rfl (hr.mono (by decide)) (LamX.lamS_by (sc := defScope s_law) (by decide +kernel)) rfl (fun _ _ _ _ _ => rfl) (fun A outer s H E f c' hr => (pe_callSD R_encode.G (hr.mono (by decide)) (by rfl) R_encode.m R_encode.k R_encode.b .nil (fun σ => passAt (takes_of rfl rfl rfl rfl) σ) (pa_cons (pv 12) (pa_cons (pv 13) pa_nil))))) (pv 15) (nomark _)) (pss_one (ps_ret pe_bl)) pss_nil)
  (pss_cons (ps_if (pt_cmpR (x_ne K (by exact hr.units)) (L3.pe_lam (k := 8) (TT := TTd K (spBadL X_BadStream.C)) (by rfl) L_law_bad_stream sc_law_bad_stream rfl (Or.inl rfl) (fun _ => by exact gives_law_bad_stream T X_BadStream gA EC hk rfl rfl rfl rfl rfl) TB rfl rfl (hr.mono (by decide)) (LamX.lamS_by (sc := defScope s_law) (by decide +kernel)) rfl (fun _ _ _ _ _ => rfl) (fun A outer s H E f c' hr => (pe_make R_Coder2.M R_Coder2.G (hr.mono (by decide)) (by rfl) R_Coder2.m R_Coder2.b R_Coder2.v (passes_call (takes_of rfl rfl rfl rfl) (fun _ _ _ _ h => h)) (pa_cons (pv 12) (pa_cons (pv 13) pa_nil))))) (pv 15) (nomark _)) (pss_one (ps_ret pe_bl)) pss_nil)
  (pss_cons (ps_if (pt_cmpR (x_ne K (by exact hr.units)) (L3.pe_lam (k := 8) (TT := TTd K (spBadL X_BadStream.C)) (by rfl) L_law_bad_stream sc_law_bad_stream rfl (Or.inl rfl) (fun _ => by exact gives_law_bad_stream T X_BadStream gA EC hk rfl rfl rfl rfl rfl) TB rfl rfl (hr.mono (by decide)) (LamX.lamS_by (sc := defScope s_law) (by decide +kernel)) rfl (fun _ _ _ _ _ => rfl) (fun A outer s H E f c' hr => (pe_meth (pv 8) S_put.cl S_put.me S_put.G (hr.mono (by decide)) S_put.b .nil (passes_call (takes_of rfl rfl rfl rfl) (fun _ _ _ _ h => h)) (pa_cons (pv 11) pa_nil)))) pe_str (nomark _)) (pss_one (ps_ret pe_bl)) pss_nil)
  (pss_cons (ps_set (i := 16) sc_law.nd rfl (Or.inr rfl) (pe_make R_Coder2.M R_Coder2.G (hr.mono (by decide)) (by rfl) R_Coder2.m R_Coder2.b R_Coder2.v (passes_call takes0 (fun _ _ _ _ h => h)) (pa_cons (pv 2) (pa_cons (pe_lc (own := [("value", 10)]) (g := gName 10) (tt := tYes) rfl sc_law.nd (pi_range1 (by rfl) T.b_range (pa_cons pe_int pa_nil)) (blkOk_by (own := [("value", 10)]) (N := N_law) (sc := defScope s_law) (by decide +kernel)) (fun _ _ _ _ _ => (pg_name (i := 10) sc_law.nd rfl (Or.inl rfl))) (fun _ _ _ _ _ => pts_nil) (fun _ _ _ _ _ => (pv 10))) pa_nil))))
  (pss_cons (ps_if (pt_cmpR (x_ne K (by exact hr.units)) (L3.pe_lam (k := 8) (TT := TTd K (spBadL X_BadStream.C)) (by rfl) L_law_bad_stream sc_law_bad_stream rfl (Or.inl rfl) (fun _ => by exact gives_law_bad_stream T X_BadStream gA EC hk rfl rfl rfl rfl rfl) TB rfl rfl (hr.mono (by decide)) (LamX.lamS_by (sc := defScope s_law) (by decide +kernel)) rfl (fun _ _ _ _ _ => rfl) (fun A outer s H E f c' hr => (pe_meth (pv 16) S_put.cl S_put.me S_put.G (hr.mono (by decide)) S_put.b .nil (passes_call (takes_of rfl rfl rfl rfl) (fun _ _ _ _ h => h)) (pa_cons pe_int pa_nil)))) pe_str (nomark _)) (pss_one (ps_ret pe_bl)) pss_nil)
  (pss_one (ps_ret (pe_cmpR (x_eq K (by exact hr.units)) (L3.pe_lam (k := 8) (TT := TTd K (spBadL X_BadStream.C)) (by rfl) L_law_bad_stream sc_law_bad_stream rfl (Or.inl rfl) (fun _ => by exact gives_law_bad_stream T X_BadStream gA EC hk rfl rfl rfl rfl rfl) TB rfl rfl (hr.mono (by decide)) (LamX.lamS_by (sc := defScope s_law) (by decide +kernel)) rfl (fun _ _ _ _ _ => rfl) (fun A outer s H E f c' hr => (pe_meth (pv 8) S_put.cl S_put.me S_put.G (hr.mono (by decide)) S_put.b .nil (passes_call (takes_of rfl rfl rfl rfl) (fun _ _ _ _ h => h)) (pa_cons pe_int pa_nil)))) (pe_ifExp (pt_cmpR (x_eq K (by exact hr.units)) (pv 3) pe_int (nomark _)) pe_str pe_non) (nomark _))))))))))))))))))))))))))))))), ?_⟩
    refine st_seq ?_
    refine ⟨_, rfl, a, ns, rfl, hS, hlen, fun b q bs H1 nqb g1 g2 g3 g4 g5 sm => ?_⟩
    refine gN_go ?_
    dsimp only
    have hP1 := sm _ _ hP
    have LX : LamCx ⟨P, w, K, [q, b], some (b, q), noTb H1⟩ := ⟨noTb_no H1, fun o ho => by
      rcases List.mem_cons.mp ho with e | e
      · rw [e]; exact ⟨_, noTb_of g2 rfl, .inl ⟨_, rfl⟩⟩
      · rw [List.mem_singleton.mp e]; exact ⟨_, noTb_of g1 rfl, .inl ⟨_, rfl⟩⟩⟩
    refine' (?W : WSX ⟨P, w, K, [q, b], some (b, q), noTb H1⟩ [(Pt, (cxOf CX0 P w K mg base N_law "law" (defScope s_law) f (.ref c) A outer s H E).env.qual ++ ("<lambda>" : Str))] _ (.un :: .val (.adr b) :: UN15) 0 { nx := fun _ _ => False, rt := fun _ d => d = .bl true }) (fun _ => none) [] _ H1 _ ?N1 ?E1 ?T1 ?A1
    case N1 => exact fun a ps z => nomatch z
    case E1 =>
      exact { nd := List.nodup_nil, fresh := (fun l hl => nomatch hl), slots := ⟨[], .un (.val (.adr b) (slots_un 15)), List.Sublist.refl _⟩, lst := (fun l hl => nomatch hl), bag := (fun b' q' e => by cases e; exact ⟨0, 0, bs, g1, g2, g3, g4, g5, Int.le_refl _, Int.le_refl _, Int.le_refl _⟩), base := same_hid_of (noTb_same H1),
              pers := (fun _ _ e => nomatch e), bO := (fun b' q' e => by cases e; exact ⟨List.mem_cons_of_mem _ List.mem_cons_self, List.mem_cons_self, nqb⟩),
              al := fun o ho => by
                rcases List.mem_cons.mp ho with e | e
                · rw [e, g2]; exact fun z => nomatch z
                · rw [List.mem_singleton.mp e, g1]; exact fun z => nomatch z }
    case T1 =>
      intro p hp
      rw [List.mem_singleton.mp hp]
      refine LamX.TabS.nil ?_
      rw [hid_out (fun z => by
        rcases List.mem_cons.mp z with e | e
        · have z1 : H1 Pt = _ := hP1
          rw [show Pt = q from e, g2] at z1; cases z1
        · have z1 : H1 Pt = _ := hP1
          rw [show Pt = b from List.mem_singleton.mp e, g1] at z1; cases z1)]
      exact hP1
    case A1 =>
      exact { nx := fun _ _ _ _ _ _ _ h => h.elim, rt := fun v d n H' _ _ r e => by subst e; cases r; exact k H', bk := fun _ _ _ _ _ _ _ h => h.elim, ct := fun _ _ _ _ _ _ _ h => h.elim }
    case W =>
      clear g1 g2 g3 g4 g5 hS hlen k sm hP1 hP
      refine ws_cutX (fun n1 ρ1 => n1 ≤ 1 ∧ ∃ w1 : Nat, w1 ≤ 3 ∧ ρ1 = [.un, .val (.adr b), .val (.int ((w1 : Int) + 1)), .un, .un, .un, .un, .un, .un, .un, .un, .un, .un, .un, .un, .un, .un]) (ws_x ?_) ?_
      · walk_at "ws1"
        walk_at "go"
        refine ⟨b, q, 4, rfl, rfl, by decide, by decide, by decide, fun r h0 h4 => ?_⟩
        obtain ⟨r, rfl⟩ : ∃ p : Nat, r = (p : Int) := ⟨r.toNat, by omega⟩
        walk_at "go"
        exact ⟨by decide, r, by omega, by rw [Int.add_comm]; rfl⟩
      rintro n1 ρ1 ⟨hn1, w1, hw1, rfl⟩
      refine ws_cutX (fun n2 ρ1 => n2 ≤ 3 ∧ ∃ c : Nat, c ≤ 30 ∧ ρ1 = [.un, .val (.adr b), .val (.int ((w1 : Int) + 1)), .val (.int (c : Int)), .un, .un, .un, .un, .un, .un, .un, .un, .un, .un, .un, .un, .un]) (ws_x ?_) ?_
      · walk_at "ws1"
        walk_at "go"
        refine ⟨Nat.le_of_ble_eq_true rfl, ?_⟩
        walk_at "go"
        refine ⟨b, q, 4, rfl, rfl, by decide, by decide, by omega, fun r h0 h4 => ?_⟩
        have hr4 : r = 0 ∨ r = 1 ∨ r = 2 ∨ r = 3 := by omega
        obtain ⟨lim, hl, hl0, hl31⟩ : ∃ lim : Int, ixD (.lst [.int 4, .int 7, .int 10, .int 31]) r = some (.int lim) ∧ 0 < lim ∧ lim ≤ 31 := by
          rcases hr4 with rfl | rfl | rfl | rfl <;> exact ⟨_, rfl, by decide, by decide⟩
        refine r2_ix hl ?_
        refine wa_nil ⟨b, q, lim, rfl, rfl, by omega, by omega, by omega, fun r2 h0 h4 => ?_⟩
        obtain ⟨c, rfl⟩ : ∃ p : Nat, r2 = (p : Int) := ⟨r2.toNat, by omega⟩
        exact ⟨by omega, c, by omega, rfl⟩
      rintro n2 ρ1 ⟨hn2, c, hc, rfl⟩
      refine ws_cutX (fun n3 ρ1 => n3 ≤ 100 ∧ ∃ vs : List Int, vs.length = c ∧ (∀ i ∈ vs, i.natAbs < 2 ^ 200) ∧ ρ1 = [.un, .val (.adr b), .val (.int ((w1 : Int) + 1)), .val (.int (c : Int)), .val (.lst (vs.map .int)), .un, .un, .un, .un, .un, .un, .un, .un, .un, .un, .un, .un]) (ws_x ?_) ?_
      · walk_at "ws1"
        walk_at "go"
        refine ⟨b, q, rfl, c, rfl, by omega, by omega, fun vs n' hl hb hn => ⟨by omega, vs, hl, fun i hi => Nat.lt_trans (hb i hi) (by decide +kernel), rfl⟩⟩
      rintro n3 ρ1 ⟨hn3, vs, hvl, hvb, rfl⟩
      have hvl30 : vs.length ≤ 30 := by omega
      refine ws_cutX (fun n4 ρ1 => n4 = n3 ∧ ρ1 = [.un, .val (.adr b), .val (.int ((w1 : Int) + 1)), .val (.int (c : Int)), .val (.lst (vs.map .int)), .val (encD w1 vs), .un, .un, .un, .un, .un, .un, .un, .un, .un, .un, .un]) (ws_x ?_) ?_
      · walk_at "ws1"
        walk_at "go"
        refine ⟨w1, vs, rfl, hw1, hvl30, hvb, ?_⟩
        walk_at "go"
        refine rc_tup rfl ?_
        exact ⟨rfl, rfl⟩
      rintro n4 ρ1 ⟨rfl, rfl⟩
      have fE : fit (encD w1 vs) = true := fit_enc w1 vs vs.length
      refine ws_cutX (fun n5 ρ1 => n5 = n4 ∧ ρ1 = [.un, .val (.adr b), .val (.int ((w1 : Int) + 1)), .val (.int (c : Int)), .val (.lst (vs.map .int)), .val (encD w1 vs), .un, .un, .un, .un, .un, .un, .un, .un, .un, .un, .un]) (ws_x ?_) ?_
      · walk_at "ws1"
        walk_at "go"
        refine ⟨w1, true, vs, rfl, hw1, hvl30, hvb, ?_⟩
        walk_at "go"
        refine r2_neD fE fE ?_
        rw [L3.eq_self fE]
        refine ⟨_, rfl, itF rfl ?_⟩
        walk_at "go"
        refine rc_tup rfl ?_
        refine wa_nil ⟨w1, false, vs, rfl, hw1, hvl30, hvb, ?_⟩
        walk_at "go"
        refine r2_neD fE fE ?_
        rw [L3.eq_self fE]
        refine ⟨_, rfl, itF rfl ?_⟩
        walk_at "ws1"
        exact ⟨rfl, rfl⟩
      rintro n5 ρ1 ⟨rfl, rfl⟩
      refine ws_cutX (fun n6 ρ1 => n6 = n5 + 1 ∧ ∃ cut : Nat, cut ≤ c ∧ ρ1 = [.un, .val (.adr b), .val (.int ((w1 : Int) + 1)), .val (.int (c : Int)), .val (.lst (vs.map .int)), .val (encD w1 vs), .val (.int (cut : Int)), .un, .un, .un, .un, .un, .un, .un, .un, .un, .un]) (ws_x ?_) ?_
      · walk_at "ws1"
        walk_at "go"
        refine ⟨b, q, _, rfl, rfl, by omega, by omega, by omega, fun r h0 h4 => ?_⟩
        obtain ⟨r, rfl⟩ : ∃ p : Nat, r = (p : Int) := ⟨r.toNat, by omega⟩
        exact ⟨rfl, r, by omega, rfl⟩
      rintro n6 ρ1 ⟨rfl, cut, hcut, rfl⟩
      have htl : (vs.take cut).length = cut := by rw [List.length_take]; omega
      have htb : ∀ i ∈ vs.take cut, i.natAbs < 2 ^ 200 := fun i hi => hvb i (List.mem_of_mem_take hi)
      have hcutT : cutD (vs.map .int) none (some (cut : Int)) = (vs.take cut).map D.int := by rw [cut_to (by rw [List.length_map]; omega), List.map_take]
      refine ws_cutX (fun n7 ρ1 => n7 = n5 + 1 ∧ ρ1 = [.un, .val (.adr b), .val (.int ((w1 : Int) + 1)), .val (.int (c : Int)), .val (.lst (vs.map .int)), .val (encD w1 vs), .val (.int (cut : Int)), .own ((vs.take cut).map D.int), .un, .un, .un, .un, .un, .un, .un, .un, .un]) (ws_x ?_) ?_
      · refine ws_own (i := 7) (Nat.le_of_ble_eq_true rfl) (wf_sl ?_)
        walk_at "go"
        rw [hcutT]
        exact ⟨rfl, rfl⟩
      rintro n7 ρ1 ⟨rfl, rfl⟩
      refine ws_cutX (fun n8 ρ1 => n8 = n5 + 1 ∧ ρ1 = [.un, .val (.adr b), .val (.int ((w1 : Int) + 1)), .val (.int (c : Int)), .val (.lst (vs.map .int)), .val (encD w1 vs), .val (.int (cut : Int)), .own ((vs.take cut).map D.int), .val (coD CC w1 (vs.take cut)), .un, .un, .un, .un, .un, .un, .un, .un]) (ws_x ?_) ?_
      · refine ws_set (we_lookT (i := 7) rfl (we_makeX xa_false (dds := []) (fun _ => .nil) ?_))
        walk_at "go"
        refine ⟨_, .lst ((vs.take cut).map .int), rfl, rfl, val_ints (b := true) (by omega) htb, fun x hx => ?_, fun _ => ?_⟩
        · rw [show D.lst ((vs.take cut).map .int) = rowD true ((vs.take cut).map .int) from rfl, fault_ok hw1 (by omega)] at hx
          cases hx
        · refine ⟨?_, rfl, rfl⟩
          show (true && (noLstAll ((vs.take cut).map .int) && true)) = true
          rw [noLst_ints]; rfl
      rintro n8 ρ1 ⟨rfl, rfl⟩
      refine ws_cutX (fun n9 ρ1 => n9 = n5 + 1 ∧ ρ1 = [.un, .val (.adr b), .val (.int ((w1 : Int) + 1)), .val (.int (c : Int)), .val (.lst (vs.map .int)), .val (encD w1 vs), .val (.int (cut : Int)), .own ((vs.take cut).map D.int ++ [.int 1]), .val (coD CC w1 (vs.take cut)), .un, .un, .un, .un, .un, .un, .un, .un]) (ws_x ?_) ?_
      · refine ws_append (i := 7) rfl ?_
        walk_at "go"
        exact ⟨by rw [List.length_map, sizeLine_eq]; omega, rfl, rfl⟩
      rintro n9 ρ1 ⟨rfl, rfl⟩
      refine ws_cutX (fun n10 ρ1 => n10 = n5 + 1 ∧ ρ1 = [.un, .val (.adr b), .val (.int ((w1 : Int) + 1)), .val (.int (c : Int)), .val (.lst (vs.map .int)), .val (encD w1 vs), .val (.int (cut : Int)), .own ((vs.take cut).map D.int ++ [.int 1]), .val (coD CC w1 (vs.take cut)), .val (coD CC w1 (vs.take cut)), .un, .un, .un, .un, .un, .un, .un]) (ws_x ?_) ?_
      · walk_at "ws1"
        walk_at "go"
        exact ⟨rfl, rfl⟩
      rintro n10 ρ1 ⟨rfl, rfl⟩
      have hcutD : cutD (vs.map .int) (some (cut : Int)) none = (vs.drop cut).map D.int := by rw [cut_from (by rw [List.length_map]; omega), List.map_drop]
      refine ws_cutX (fun n11 ρ1 => n11 = n5 + 1 ∧ ∃ x10, ρ1 = [.un, .val (.adr b), .val (.int ((w1 : Int) + 1)), .val (.int (c : Int)), .val (.lst (vs.map .int)), .val (encD w1 vs), .val (.int (cut : Int)), .own ((vs.take cut).map D.int ++ [.int 1]), .val (coD CC w1 vs), .val (coD CC w1 (vs.take cut)), x10, .un, .un, .un, .un, .un, .un]) (ws_x ?_) ?_
      · refine ws_for (wi_seq ?_)
        walk_at "go"
        rw [hcutD]
        refine ⟨fun i m ρ => m = n5 + 1 ∧ ∃ x10, ρ = [.un, .val (.adr b), .val (.int ((w1 : Int) + 1)), .val (.int (c : Int)), .val (.lst (vs.map .int)), .val (encD w1 vs), .val (.int (cut : Int)), .own ((vs.take cut).map D.int ++ [.int 1]), .val (coD CC w1 (vs.take (cut + i))), .val (coD CC w1 (vs.take cut)), x10, .un, .un, .un, .un, .un, .un], ⟨rfl, .un, rfl⟩, ?_, ?_⟩
        · rintro i m ρ1 d hd ⟨rfl, x10, rfl⟩
          have hi : i < vs.length - cut := by
            have := (List.getElem?_eq_some_iff.mp hd).1
            rw [List.length_map, List.length_drop] at this
            exact this
          have hvi : vs[cut + i]? = some vs[cut + i] := List.getElem?_eq_getElem (by omega)
          rw [List.getElem?_map, List.getElem?_drop, hvi] at hd
          cases hd
          walk_at "wg1"
          refine ws_set (we_meth (dds := []) (fun _ => .nil) ?_)
          walk_at "we1"
          refine ⟨_, rfl, rfl, ?_⟩
          walk_at "go"
          refine ⟨w1, vs.take (cut + i), vs[cut + i], rfl, hw1, by rw [List.length_take]; omega, fun j hj => hvb j (List.mem_of_mem_take hj), hvb _ (List.getElem_mem _), rfl, .val (.int vs[cut + i]), ?_⟩
          have e : vs.take (cut + (i + 1)) = vs.take (cut + i) ++ [vs[cut + i]] := by
            rw [← Nat.add_assoc, List.take_succ_eq_append_getElem (by omega)]
          rw [e]; rfl
        · rintro m ρ1 ⟨rfl, x10, rfl⟩
          rw [List.length_map, List.length_drop]
          have e : vs.take (cut + (vs.length - cut)) = vs := List.take_of_length_le (by omega)
          rw [e]
          exact ⟨rfl, x10, rfl⟩
      rintro n11 ρ1 ⟨rfl, x10, rfl⟩
      have fV := fit_ints vs
      have fW : fit (.int ((w1 : Int) + 1)) = true := rfl
      refine ws_cutX (fun n12 ρ1 => n12 = n5 + 1 ∧ ρ1 = [.un, .val (.adr b), .val (.int ((w1 : Int) + 1)), .val (.int (c : Int)), .val (.lst (vs.map .int)), .val (encD w1 vs), .val (.int (cut : Int)), .own ((vs.take cut).map D.int ++ [.int 1]), .val (coD CC w1 vs), .val (coD CC w1 (vs.take cut)), x10, .un, .un, .un, .un, .un, .un]) (ws_x ?_) ?_
      · refine ws_if (wt_or (wt_test (we_op (we_meth (dds := []) (fun _ => .nil) ?_))))
        walk_at "we1"
        refine ⟨_, rfl, rfl, ?_⟩
        refine wa_nil ⟨w1, vs, rfl, hw1, hvl30, hvb, ?_⟩
        walk_at "go"
        refine r2_neD fE fE ?_
        rw [L3.eq_self fE]
        refine ⟨_, rfl, itF rfl ?_⟩
        refine wt_or (wt_test (we_op (we_fld TC.cl TC.n2 ?_)))
        walk_at "we1"
        refine ⟨_, rfl, _, rfl, ?_⟩
        walk_at "go"
        refine rc_tup rfl ?_
        refine r2_neD fV fV ?_
        rw [L3.eq_self fV]
        refine ⟨_, rfl, itF rfl ?_⟩
        refine wt_or (wt_test (we_op (we_fld TC.cl TC.n1 ?_)))
        walk_at "we1"
        refine ⟨_, rfl, _, rfl, ?_⟩
        walk_at "go"
        refine decN (fun z => absurd rfl z) (fun _ => ?_)
        refine wt_not (wt_test (we_op ?_))
        walk_at "go"
        refine we_makeX xa_false (dds := []) (fun _ => .nil) ?_
        walk_at "go"
        refine ⟨_, .lst (vs.map .int), rfl, rfl, val_ints (b := true) (by omega) hvb, fun x hx => ?_, fun _ => ?_⟩
        · rw [show D.lst (vs.map .int) = rowD true (vs.map .int) from rfl, fault_ok hw1 (by omega)] at hx
          cases hx
        refine r2_own ⟨w1, w1, vs, vs, rfl, _, rfl, ?_⟩
        rw [decide_eq_true (⟨rfl, rfl⟩ : w1 = w1 ∧ vs = vs)]
        refine ⟨_, rfl, itF rfl ?_⟩
        walk_at "ws1"
        exact ⟨rfl, rfl⟩
      rintro n12 ρ1 ⟨rfl, rfl⟩
      have fT := fit_ints (vs.take cut)
      refine ws_cutX (fun n13 ρ1 => n13 = n5 + 1 ∧ ρ1 = [.un, .val (.adr b), .val (.int ((w1 : Int) + 1)), .val (.int (c : Int)), .val (.lst (vs.map .int)), .val (encD w1 vs), .val (.int (cut : Int)), .own ((vs.take cut).map D.int ++ [.int 1]), .val (coD CC w1 vs), .val (coD CC w1 (vs.take cut)), x10, .un, .un, .un, .un, .un, .un]) (ws_x ?_) ?_
      · refine ws_if (wt_or (wt_test (we_op (we_meth (dds := []) (fun _ => .nil) ?_))))
        walk_at "we1"
        refine ⟨_, rfl, rfl, ?_⟩
        refine wa_nil ⟨w1, vs.take cut, rfl, hw1, by omega, htb, ?_⟩
        walk_at "go"
        rw [cut_to (by unfold encL; rw [List.length_map, List.length_range]; omega), enc_take (by omega : cut ≤ vs.length)]
        have fEc : fit (.tup ((encL w1 vs vs.length).take cut)) = true := by
          rw [← enc_take (by omega : cut ≤ vs.length)]
          exact fit_enc w1 (vs.take cut) _
        refine r2_neD fEc fEc ?_
        rw [L3.eq_self fEc]
        refine ⟨_, rfl, itF rfl ?_⟩
        refine wt_test (we_op (we_fld TC.cl TC.n2 ?_))
        walk_at "we1"
        refine ⟨_, rfl, _, rfl, ?_⟩
        walk_at "go"
        rw [hcutT]
        refine rc_tup rfl ?_
        refine r2_neD fT fT ?_
        rw [L3.eq_self fT]
        refine ⟨_, rfl, itF rfl ?_⟩
        walk_at "ws1"
        exact ⟨rfl, rfl⟩
      rintro n13 ρ1 ⟨rfl, rfl⟩
      refine ws_cutX (fun n14 ρ1 => n14 = n5 + 1 ∧ ρ1 = [.un, .val (.adr b), .val (.int ((w1 : Int) + 1)), .val (.int (c : Int)), .val (.lst (vs.map .int)), .val (encD w1 vs), .val (.int (cut : Int)), .own ((vs.take cut).map D.int ++ [.int 1]), .val (coD CC w1 vs), .val (coD CC w1 (vs.take cut)), x10, .un, .un, .un, .un, .un, .un]) (ws_x ?_) ?_
      · refine ws_if (wt_and ?_)
        walk_at "go"
        refine dec2 (fun h1 => ?_) (fun h1 => ?_)
        · walk_at "go"
          refine r2_own ⟨w1, w1, vs.take cut, vs, rfl, _, rfl, ?_⟩
          rw [decide_eq_false (fun z : w1 = w1 ∧ vs.take cut = vs => by
            have := congrArg List.length z.2
            omega)]
          refine ⟨_, rfl, itF rfl ?_⟩
          walk_at "ws1"
          exact ⟨rfl, rfl⟩
        · refine itF rfl ?_
          walk_at "ws1"
          exact ⟨rfl, rfl⟩
      rintro n14 ρ1 ⟨rfl, rfl⟩
      -- () and one value
      have e0 : encD w1 [] = .tup [] := rfl
      refine ws_cutX (fun n15 ρ1 => n15 = n5 + 1 ∧ ρ1 = [.un, .val (.adr b), .val (.int ((w1 : Int) + 1)), .val (.int (c : Int)), .val (.lst (vs.map .int)), .val (encD w1 vs), .val (.int (cut : Int)), .own ((vs.take cut).map D.int ++ [.int 1]), .val (coD CC w1 vs), .val (coD CC w1 (vs.take cut)), x10, .un, .un, .un, .un, .un, .un]) (ws_x ?_) ?_
      · refine ws_if (wt_or (wt_test (we_op (we_meth (dds := []) (fun _ => .nil) ?_))))
        refine we_makeX xa_false (dds := [.tup []]) (fun H => .cons (hE1 H) .nil) ?_
        walk_at "go"
        refine ⟨_, .tup [], rfl, rfl, val_ints (b := false) (vs := []) (Nat.zero_le _) (fun _ h => nomatch h), fun x hx => ?_, fun _ => ?_⟩
        · rw [show D.tup [] = rowD false (([] : List Int).map .int) from rfl, fault_ok hw1 (Nat.zero_le _)] at hx
          cases hx
        refine ⟨_, rfl, rfl, ?_⟩
        refine wa_nil ⟨w1, [], rfl, hw1, Nat.zero_le _, (fun _ h => nomatch h), ?_⟩
        rw [e0]
        walk_at "go"
        refine ⟨Nat.zero_le _, ?_⟩
        refine r2_neD rfl rfl ?_
        rw [L3.eq_self rfl]
        refine ⟨_, rfl, itF rfl ?_⟩
        refine wt_test (we_op (we_meth (dds := []) (fun _ => .nil) ?_))
        refine we_makeX xa_false (dds := [.tup []]) (fun H => .cons (hE1 H) .nil) ?_
        walk_at "go"
        refine ⟨_, .tup [], rfl, rfl, val_ints (b := false) (vs := []) (Nat.zero_le _) (fun _ h => nomatch h), fun x hx => ?_, fun _ => ?_⟩
        · rw [show D.tup [] = rowD false (([] : List Int).map .int) from rfl, fault_ok hw1 (Nat.zero_le _)] at hx
          cases hx
        refine ⟨_, rfl, rfl, ?_⟩
        walk_at "go"
        refine ⟨w1, [], 7, rfl, hw1, by decide, (fun _ h => nomatch h), by decide +kernel, ?_⟩
        refine we_makeN xa_false ?_
        walk_at "go"
        refine ⟨rfl, ?_⟩
        walk_at "go"
        refine ⟨Nat.le_of_ble_eq_true rfl, ?_⟩
        refine wa_nil ⟨rfl, _, .lst [.int 7], rfl, rfl, val_ints (b := true) (vs := [7]) (by decide) (fun i hi => by rw [List.mem_singleton.mp hi]; decide +kernel), fun x hx => ?_, fun _ => ?_⟩
        · rw [show D.lst [.int 7] = rowD true (([7] : List Int).map .int) from rfl, fault_ok hw1 (by decide)] at hx
          cases hx
        refine r2_own ⟨w1, w1, [7], [7], rfl, _, rfl, ?_⟩
        rw [decide_eq_true (⟨rfl, rfl⟩ : w1 = w1 ∧ ([7] : List Int) = [7])]
        refine ⟨_, rfl, itF rfl ?_⟩
        walk_at "ws1"
        exact ⟨rfl, rfl⟩
      rintro n15 ρ1 ⟨rfl, rfl⟩
      -- odd things
      refine ws_cutX (fun n16 ρ1 => n16 ≤ 200 ∧ ∃ od : D, OddD od ∧ ρ1 = [.un, .val (.adr b), .val (.int ((w1 : Int) + 1)), .val (.int (c : Int)), .val (.lst (vs.map .int)), .val (encD w1 vs), .val (.int (cut : Int)), .own ((vs.take cut).map D.int ++ [.int 1]), .val (coD CC w1 vs), .val (coD CC w1 (vs.take cut)), x10, .val od, .un, .un, .un, .un, .un]) (ws_x ?_) ?_
      · walk_at "ws1"
        walk_at "go"
        refine ⟨Nat.le_of_ble_eq_true rfl, ?_⟩
        walk_at "go"
        refine ⟨Nat.le_of_ble_eq_true rfl, ?_⟩
        refine wa_nil ⟨Nat.le_of_ble_eq_true rfl, ?_⟩
        walk_at "go"
        refine ⟨b, q, 5, rfl, rfl, by decide, by decide, by omega, fun r h0 h4 => ?_⟩
        have hr5 : r = 0 ∨ r = 1 ∨ r = 2 ∨ r = 3 ∨ r = 4 := by omega
        obtain ⟨od, hod, hO⟩ : ∃ od : D, ixD (.lst [.bl true, .non, .str "1", .tup [.int 1], .lst [.int 2]]) r = some od ∧ OddD od := by
          rcases hr5 with rfl | rfl | rfl | rfl | rfl <;> exact ⟨_, rfl, by decide +kernel, rfl⟩
        refine r2_ix hod ?_
        exact ⟨by omega, od, hO, rfl⟩
      rintro n16 ρ1 ⟨hn16, od, hod, rfl⟩
      refine ws_cutX (fun n17 ρ1 => n17 ≤ 202 ∧ ∃ bw : D, WidD w1 bw ∧ ρ1 = [.un, .val (.adr b), .val (.int ((w1 : Int) + 1)), .val (.int (c : Int)), .val (.lst (vs.map .int)), .val (encD w1 vs), .val (.int (cut : Int)), .own ((vs.take cut).map D.int ++ [.int 1]), .val (coD CC w1 vs), .val (coD CC w1 (vs.take cut)), x10, .val od, .val bw, .un, .un, .un, .un]) (ws_x ?_) ?_
      · refine ws_set (we_if ?_)
        walk_at "go"
        refine ⟨b, q, 3, rfl, rfl, by decide, by decide, by omega, fun r h0 h4 => ?_⟩
        walk_at "go"
        refine dec2 (fun h3 => ?_) (fun h3 => ?_)
        · walk_at "go"
          refine ⟨Nat.le_of_ble_eq_true rfl, ?_⟩
          walk_at "go"
          refine ⟨b, q, 6, rfl, rfl, by decide, by decide, by omega, fun r h0 h4 => ?_⟩
          have hr6 : r = 0 ∨ r = 1 ∨ r = 2 ∨ r = 3 ∨ r = 4 ∨ r = 5 := by omega
          obtain ⟨bw, hbw, hO⟩ : ∃ bw : D, ixD (.lst [.int 0, .int 5, .bl true, .non, .str "2", .int (0 - 1)]) r = some bw ∧ WidD w1 bw := by
            rcases hr6 with rfl | rfl | rfl | rfl | rfl | rfl
            · exact ⟨_, rfl, .inr ⟨rfl, rfl, by decide +kernel, .inl (by rw [eq_intD]; exact decide_eq_false (by omega))⟩⟩
            · exact ⟨_, rfl, .inr ⟨rfl, rfl, by decide +kernel, .inl (by rw [eq_intD]; exact decide_eq_false (by omega))⟩⟩
            · exact ⟨_, rfl, .inr ⟨rfl, rfl, by decide +kernel, .inr rfl⟩⟩
            · exact ⟨_, rfl, .inr ⟨rfl, rfl, by decide +kernel, .inl rfl⟩⟩
            · exact ⟨_, rfl, .inr ⟨by decide +kernel, by decide +kernel, by decide +kernel, .inl rfl⟩⟩
            · exact ⟨_, rfl, .inr ⟨rfl, rfl, by decide +kernel, .inl (by rw [eq_intD]; exact decide_eq_false (by omega))⟩⟩
          refine r2_ix hbw ?_
          exact ⟨by omega, bw, hO, rfl⟩
        · walk_at "go"
          exact ⟨by omega, .int ((w1 : Int) + 1), .inl rfl, rfl⟩
      rintro n17 ρ1 ⟨hn17, bw, hbw, rfl⟩
      refine ws_cutX (fun n18 ρ1 => n18 = n17 ∧ ρ1 = [.un, .val (.adr b), .val (.int ((w1 : Int) + 1)), .val (.int (c : Int)), .val (.lst (vs.map .int)), .val (encD w1 vs), .val (.int (cut : Int)), .own ((vs.take cut).map D.int ++ [.int 1]), .val (coD CC w1 vs), .val (coD CC w1 (vs.take cut)), x10, .val od, .val bw, .own (vs.map .int), .un, .un, .un]) (ws_x ?_) ?_
      · refine ws_own (i := 13) (Nat.le_of_ble_eq_true rfl) (wf_list1 (we_var rfl ?_))
        exact ⟨_, rfl, rfl, rfl⟩
      rintro n18 ρ1 ⟨rfl, rfl⟩
      refine ws_cutX (fun n19 ρ1 => n19 ≤ 203 ∧ ∃ kd : Int, 0 ≤ kd ∧ kd < 5 ∧ ρ1 = [.un, .val (.adr b), .val (.int ((w1 : Int) + 1)), .val (.int (c : Int)), .val (.lst (vs.map .int)), .val (encD w1 vs), .val (.int (cut : Int)), .own ((vs.take cut).map D.int ++ [.int 1]), .val (coD CC w1 vs), .val (coD CC w1 (vs.take cut)), x10, .val od, .val bw, .own (vs.map .int), .val (.int kd), .un, .un]) (ws_x ?_) ?_
      · walk_at "ws1"
        walk_at "go"
        exact ⟨b, q, 5, rfl, rfl, by decide, by decide, by omega, fun r h0 h4 => ⟨by omega, r, h0, h4, rfl⟩⟩
      rintro n19 ρ1 ⟨hn19, kd, hk0, hk5, rfl⟩
      refine ws_cutX (fun n20 ρ1 => n20 ≤ 204 ∧ ∃ (x13 : SD) (bv : D) (x10 : SD), HasD x13 bv ∧ Val bv ∧ valsB bv = decide (3 ≤ kd) ∧ ρ1 = [.un, .val (.adr b), .val (.int ((w1 : Int) + 1)), .val (.int (c : Int)), .val (.lst (vs.map .int)), .val (encD w1 vs), .val (.int (cut : Int)), .own ((vs.take cut).map D.int ++ [.int 1]), .val (coD CC w1 vs), .val (coD CC w1 (vs.take cut)), x10, .val od, .val bw, x13, .val (.int kd), .un, .un]) (ws_x ?_) ?_
      · refine ws_if ?_
        walk_at "go"
        refine dec2 (fun h3 => ?_) (fun h3 => ?_)
        · subst h3
          refine ws_insert (i := 13) rfl ?_
          walk_at "go"
          refine ⟨b, q, _, rfl, rfl, by omega, by omega, by omega, fun r h0 h4 => ?_⟩
          refine ⟨r, rfl, h0, by omega, we_var rfl ?_⟩
          obtain ⟨r, rfl⟩ : ∃ p : Nat, r = (p : Int) := ⟨r.toNat, by omega⟩
          have e1 : ((r : Nat) : Int).toNat = r := by omega
          rw [e1]
          refine ⟨by rw [List.length_map, sizeLine_eq]; omega, by omega, _, .lst ((vs.map .int).take r ++ [od] ++ (vs.map .int).drop r), x10, .inr ⟨_, rfl, rfl⟩, ⟨?_, ?_, ?_⟩, ?_, rfl⟩
          · refine thgAll_of fun x hx => ?_
            rcases List.mem_append.mp hx with z | z
            · rcases List.mem_append.mp z with z | z
              · exact thgAll_mem (thg_ints vs) (List.mem_of_mem_take z)
              · rw [List.mem_singleton.mp z]; exact hod.th
            · exact thgAll_mem (thg_ints vs) (List.mem_of_mem_drop z)
          · show ((vs.map D.int).take r ++ [od] ++ (vs.map D.int).drop r).length ≤ 1000
            rw [List.length_append, List.length_append, List.length_take, List.length_drop, List.length_map]
            show min r vs.length + 1 + (vs.length - r) ≤ 1000
            omega
          · intro i hi
            have hi : D.int i ∈ (vs.map D.int).take r ++ [od] ++ (vs.map D.int).drop r := hi
            have hm : ∀ {j : Int}, D.int j ∈ vs.map D.int → j.natAbs < 2 ^ 200 := fun hj => by
              obtain ⟨k, hk, e⟩ := List.mem_map.mp hj
              cases e
              exact hvb _ hk
            rcases List.mem_append.mp hi with z | z
            · rcases List.mem_append.mp z with z | z
              · exact hm (List.mem_of_mem_take z)
              · have := hod.no
                rw [← List.mem_singleton.mp z] at this
                cases this
            · exact hm (List.mem_of_mem_drop z)
          · show (true && decide (((vs.map D.int).take r ++ [od] ++ (vs.map D.int).drop r).length ≤ 30) && ((vs.map D.int).take r ++ [od] ++ (vs.map D.int).drop r).all wholeD) = decide ((3 : Int) ≤ 0)
            rw [all_odd hod.no, Bool.and_false]; rfl
        refine ws_if ?_
        walk_at "go"
        refine dec2 (fun h4 => ?_) (fun h4 => ?_)
        · subst h4
          refine ws_set ?_
          walk_at "go"
          refine we_dnewK (wa_nil ⟨Nat.le_of_ble_eq_true rfl, ?_⟩)
          walk_at "go"
          refine ⟨b, q, 4, rfl, rfl, by decide, by decide, by omega, fun r h0 h4 => ?_⟩
          have hr4 : r = 0 ∨ r = 1 ∨ r = 2 ∨ r = 3 := by omega
          obtain ⟨bv, hbv, h1, h2, h3, h4⟩ : ∃ bv : D, ixD (.lst [.non, .str "12", .int 5, .dct []]) r = some bv ∧ thg bv = true ∧ rowOf bv = [] ∧ isRowD bv = false ∧ True := by
            rcases hr4 with rfl | rfl | rfl | rfl <;> exact ⟨_, rfl, by decide +kernel, rfl, rfl, trivial⟩
          refine r2_ix hbv ?_
          exact ⟨by omega, .val bv, bv, x10, .inl rfl, ⟨h1, by rw [h2]; exact Nat.zero_le _, fun i hi => by rw [h2] at hi; cases hi⟩, by unfold valsB; rw [h3]; rfl, rfl⟩
        refine ws_if ?_
        walk_at "go"
        refine dec2 (fun h5 => ?_) (fun h5 => ?_)
        · subst h5
          refine ws_set (wf_we (wf_map id (fun _ => true) ?_))
          walk_at "go"
          refine ⟨by decide, by decide, ?_⟩
          refine ⟨by decide +kernel, fun d hd m => ?_, ?_⟩
          · walk_at "go"
            refine ⟨rfl, rfl, fun _ => ?_⟩
            walk_at "go"
            exact ⟨rfl, rfl⟩
          rw [filt_all, show ((31 : Int)).toNat = 31 from rfl, rangeD_map]
          have hb31 : ∀ i ∈ (List.range 31).map fun i : Nat => ((i : Nat) : Int), i.natAbs < 2 ^ 200 := fun i hi => by
            obtain ⟨k, hk, rfl⟩ := List.mem_map.mp hi
            have := List.mem_range.mp hk
            have h : ((k : Nat) : Int).natAbs < 31 := by omega
            exact Nat.lt_trans h (by decide +kernel)
          exact ⟨by omega, _, _, x10, .inl rfl, val_ints (b := true) (by decide +kernel) hb31, by decide +kernel, rfl⟩
        · walk_at "ws1"
          refine ⟨by omega, _, _, x10, .inr ⟨_, rfl, rfl⟩, val_ints (b := true) (by omega) hvb, ?_, rfl⟩
          rw [show D.lst (vs.map .int) = rowD true (vs.map .int) from rfl, vals_of, decide_eq_true (by omega), decide_eq_true (by omega)]
      clear x10
      rintro n20 ρ1 ⟨hn20, x13, bv, x10, hx13, hbv, hvB, rfl⟩
      refine ws_cutX (fun n21 ρ1 => n21 = n20 ∧ ρ1 = [.un, .val (.adr b), .val (.int ((w1 : Int) + 1)), .val (.int (c : Int)), .val (.lst (vs.map .int)), .val (encD w1 vs), .val (.int (cut : Int)), .own ((vs.take cut).map D.int ++ [.int 1]), .val (coD CC w1 vs), .val (coD CC w1 (vs.take cut)), .un, .val od, .val bw, .val bv, .val (.int kd), .val (optS (faultS bw bv)), .un]) (ws_x ?_) ?_
      · refine ws_forget 10 (ws_has 13 hx13 rfl ?_)
        refine ws_set (we_if (wt_or (wt_test (we_op ?_))))
        rcases hbw with rfl | ⟨t1, t2, t3, t4⟩
        · rw [word_val hw1 hvB]
          walk_at "go"
          refine decN (fun z => absurd rfl z) (fun _ => ?_)
          walk_at "go"
          refine we_ty ?_
          refine wa_nil (rc_isBool rfl ?_)
          refine ⟨_, rfl, itF rfl ?_⟩
          refine we_if ?_
          walk_at "go"
          refine dec2 (fun z => ?_) (fun z => ?_)
          · walk_at "go"
            rw [if_pos z]
            exact ⟨rfl, rfl⟩
          · walk_at "go"
            rw [if_neg z]
            exact ⟨rfl, rfl⟩
        · rw [word_wid t3]
          walk_at "go"
          refine r2_neD t2 rfl ?_
          refine ⟨_, rfl, ?_⟩
          cases he : eqD bw (.int ((w1 : Int) + 1)) with
          | false =>
            refine itT rfl (itT rfl ?_)
            walk_at "go"
            exact ⟨rfl, rfl⟩
          | true =>
            refine itF rfl ?_
            walk_at "go"
            refine we_ty ?_
            refine wa_nil (rc_isBool t1 ?_)
            rcases t4 with t4 | t4
            · rw [t4] at he; cases he
            rw [t4]
            refine ⟨_, rfl, itT rfl ?_⟩
            walk_at "go"
            exact ⟨rfl, rfl⟩
      rintro n21 ρ1 ⟨rfl, rfl⟩
      have fO := fit_optF bw bv
      -- refused by encode
      refine ws_cutX (fun n22 ρ1 => n22 = n21 ∧ ρ1 = [.un, .val (.adr b), .val (.int ((w1 : Int) + 1)), .val (.int (c : Int)), .val (.lst (vs.map .int)), .val (encD w1 vs), .val (.int (cut : Int)), .own ((vs.take cut).map D.int ++ [.int 1]), .val (coD CC w1 vs), .val (coD CC w1 (vs.take cut)), .un, .val od, .val bw, .val bv, .val (.int kd), .val (optS (faultS bw bv)), .un]) (ws_ifX (wt_testX (we_opX (we_lamR (fun n1 d => n1 = n21 ∧ d = optS (faultS bw bv)) LX rfl ?_ ?_)))) ?_
      · intro O' H0' E hX
        refine we_callX hX (dds := []) (fun _ => .nil) ?_
        walk_at "go"
        exact ⟨bw, bv, rfl, wid_th hbw, hbv, fun x hx => ⟨rfl, x, rfl, rfl, by rw [hx]; rfl⟩, fun hx => ⟨rfl, by rw [hx]; rfl⟩⟩
      · rintro n1 d ⟨rfl, rfl⟩
        walk_at "go"
        refine r2_neD fO fO ?_
        rw [L3.eq_self fO]
        refine ⟨_, rfl, itF rfl (ws_x ?_)⟩
        walk_at "ws1"
        exact ⟨rfl, rfl⟩
      rintro n22 ρ1 ⟨rfl, rfl⟩
      -- refused by coders
      refine ws_cutX (fun n23 ρ1 => n23 = n22 ∧ ρ1 = [.un, .val (.adr b), .val (.int ((w1 : Int) + 1)), .val (.int (c : Int)), .val (.lst (vs.map .int)), .val (encD w1 vs), .val (.int (cut : Int)), .own ((vs.take cut).map D.int ++ [.int 1]), .val (coD CC w1 vs), .val (coD CC w1 (vs.take cut)), .un, .val od, .val bw, .val bv, .val (.int kd), .val (optS (faultS bw bv)), .un]) (ws_ifX (wt_testX (we_opX (we_lamR (fun n1 d => n1 = n22 ∧ d = optS (faultS bw bv)) LX rfl ?_ ?_)))) ?_
      · intro O' H0' E hX
        refine we_makeX hX (dds := []) (fun _ => .nil) ?_
        walk_at "go"
        exact ⟨bw, bv, rfl, wid_th hbw, hbv, fun x hx => ⟨rfl, x, rfl, rfl, by rw [hx]; rfl⟩, fun hx => ⟨rfl, by rw [hx]; rfl⟩⟩
      · rintro n1 d ⟨rfl, rfl⟩
        walk_at "go"
        refine r2_neD fO fO ?_
        rw [L3.eq_self fO]
        refine ⟨_, rfl, itF rfl (ws_x ?_)⟩
        walk_at "ws1"
        exact ⟨rfl, rfl⟩
      rintro n23 ρ1 ⟨rfl, rfl⟩
      have fS : fit (.str "values") = true := by decide +kernel
      -- an odd value
      refine ws_cutX (fun n24 ρ1 => n24 = n23 ∧ ρ1 = [.un, .val (.adr b), .val (.int ((w1 : Int) + 1)), .val (.int (c : Int)), .val (.lst (vs.map .int)), .val (encD w1 vs), .val (.int (cut : Int)), .own ((vs.take cut).map D.int ++ [.int 1]), .val (coD CC w1 vs), .val (coD CC w1 (vs.take cut)), .un, .val od, .val bw, .val bv, .val (.int kd), .val (optS (faultS bw bv)), .un]) (ws_ifX (wt_testX (we_opX (we_lamR (fun n1 d => n1 = n23 ∧ d = .str "values") LX rfl ?_ ?_)))) ?_
      · intro O' H0' E hX
        refine we_methX hX (dds := []) (fun _ => .nil) ?_
        walk_at "we1"
        refine ⟨_, rfl, rfl, ?_⟩
        walk_at "go"
        refine ⟨w1, vs, od, rfl, hw1, hvl30, hvb, hod.th, (fun i e => by rw [e] at hod; cases hod.no), (fun _ => ⟨rfl, _, rfl, rfl, rfl⟩), (fun i e => by rw [e] at hod; cases hod.no)⟩
      · rintro n1 d ⟨rfl, rfl⟩
        walk_at "go"
        refine r2_neD fS fS ?_
        rw [L3.eq_self fS]
        refine ⟨_, rfl, itF rfl (ws_x ?_)⟩
        walk_at "ws1"
        exact ⟨rfl, rfl⟩
      rintro n24 ρ1 ⟨rfl, rfl⟩
      -- a full coder
      refine ws_cutX (fun n25 ρ1 => n25 = n24 ∧ ρ1 = [.un, .val (.adr b), .val (.int ((w1 : Int) + 1)), .val (.int (c : Int)), .val (.lst (vs.map .int)), .val (encD w1 vs), .val (.int (cut : Int)), .own ((vs.take cut).map D.int ++ [.int 1]), .val (coD CC w1 vs), .val (coD CC w1 (vs.take cut)), .un, .val od, .val bw, .val bv, .val (.int kd), .val (optS (faultS bw bv)), .val (coD CC w1 row30)]) (ws_x ?_) ?_
      · refine ws_set (we_makeX xa_false (dds := []) (fun _ => .nil) ?_)
        walk_at "go"
        refine wf_we (wf_map id (fun _ => true) ?_)
        walk_at "go"
        refine ⟨by decide, by decide, ?_⟩
        refine ⟨by decide +kernel, fun d hd m => ?_, ?_⟩
        · walk_at "go"
          refine ⟨rfl, rfl, fun _ => ?_⟩
          walk_at "go"
          exact ⟨rfl, rfl⟩
        rw [filt_all, show ((30 : Int)).toNat = 30 from rfl, rangeD_map]
        refine wa_nil ⟨_, .lst (row30.map .int), rfl, rfl, val_ints (b := true) (by decide) row30_b, fun x hx => ?_, fun _ => ?_⟩
        · rw [show D.lst (row30.map .int) = rowD true (row30.map .int) from rfl, fault_ok hw1 (by decide)] at hx
          cases hx
        · exact ⟨rfl, rfl⟩
      rintro n25 ρ1 ⟨rfl, rfl⟩
      refine ws_cutX (fun n26 ρ1 => n26 = n25 ∧ ρ1 = [.un, .val (.adr b), .val (.int ((w1 : Int) + 1)), .val (.int (c : Int)), .val (.lst (vs.map .int)), .val (encD w1 vs), .val (.int (cut : Int)), .own ((vs.take cut).map D.int ++ [.int 1]), .val (coD CC w1 vs), .val (coD CC w1 (vs.take cut)), .un, .val od, .val bw, .val bv, .val (.int kd), .val (optS (faultS bw bv)), .val (coD CC w1 row30)]) (ws_ifX (wt_testX (we_opX (we_lamR (fun n1 d => n1 = n25 ∧ d = .str "values") LX rfl ?_ ?_)))) ?_
      · intro O' H0' E hX
        refine we_methX hX (dds := []) (fun _ => .nil) ?_
        walk_at "we1"
        refine ⟨_, rfl, rfl, ?_⟩
        walk_at "go"
        refine ⟨w1, row30, .int 1, rfl, hw1, by decide, row30_b, rfl, (fun i e => by cases e; decide +kernel), (fun _ => ⟨rfl, _, rfl, rfl, rfl⟩), (fun i _ h => absurd h (by decide))⟩
      · rintro n1 d ⟨rfl, rfl⟩
        walk_at "go"
        refine r2_neD fS fS ?_
        rw [L3.eq_self fS]
        refine ⟨_, rfl, itF rfl (ws_x ?_)⟩
        walk_at "ws1"
        exact ⟨rfl, rfl⟩
      rintro n26 ρ1 ⟨rfl, rfl⟩
      -- one value more
      refine ws_retX (we_opX (we_lamR (fun n1 d => n1 = n26 ∧ d = if c = 30 then D.str "values" else .non) LX rfl ?_ ?_))
      · intro O' H0' E hX
        refine we_methX hX (dds := []) (fun _ => .nil) ?_
        walk_at "we1"
        refine ⟨_, rfl, rfl, ?_⟩
        walk_at "go"
        refine ⟨w1, vs, .int 0, rfl, hw1, hvl30, hvb, rfl, (fun i e => by cases e; decide +kernel), (fun h => ⟨rfl, _, rfl, rfl, ?_⟩), (fun i _ h => ⟨rfl, ?_⟩)⟩
        · have h' : decide (vs.length < 30) = false := h
          rw [decide_eq_false_iff_not] at h'
          rw [if_pos (by omega)]
        · rw [if_neg (by omega)]
      · rintro n1 d ⟨rfl, rfl⟩
        refine we_if ?_
        walk_at "go"
        refine dec2 (fun z => ?_) (fun z => ?_)
        · rw [if_pos (by omega)]
          walk_at "go"
          refine r2_eqD fS fS ?_
          rw [L3.eq_self fS]
        · rw [if_neg (by omega)]
          walk_at "go"
          refine r2_eqD rfl rfl ?_
          rw [L3.eq_self rfl]

end
end Toy
namespace Toy
open PySem L2 L3
theorem all_mk {l : PySem.W.OpenLaw} {w : World} {K : PySem.W.Frag} {h : Heap} {mg : Str → Option Value} {fa : Addr} (X : K.In h) (G : h.Ns mainGlobals mg) (hfa : mg "law" = some (.ref fa))
    {C_Coder : Addr}
    {f10 : Addr}
    {f12 : Addr}
    {f13 : Addr}
    {f11 : Addr}
    {C_AskedError : Addr}
    {C_BadStream f0 : Addr} {nm_BadStream q_BadStream : Str} {N_BadStream : Addr} {bs_BadStream : List Value} {sn_BadStream : List Str} {sub_BadStream : List Value} {ab_BadStream : Bool} {col_BadStream : Option Bool} {dd_BadStream : Option Addr} {m0_BadStream m1_BadStream m2_BadStream m3_BadStream m5_BadStream : Option Value}
    {DD_BadStream cc_BadStream co_BadStream : Addr} {odc_BadStream odd_BadStream : Option Addr} {slc_BadStream sld_BadStream : Array (Option Value)} {tc_BadStream td_BadStream v0_BadStream v1_BadStream : Value} {vr_BadStream : List Value} {file_BadStream : Str} {tf_BadStream : Tok} {cls_BadStream : ClassData}
    {od0 an0 : Option Addr} {sl0 : Array (Option Value)} {oc0 kV0 dc0 pm0 ct0 : Value}
    {f1 : Addr}
    {od1 an1 : Option Addr} {sl1 : Array (Option Value)} {oc1 kV1 dc1 pm1 cd1 ct1 : Value}
    {f2 : Addr}
    {od2 an2 : Option Addr} {sl2 : Array (Option Value)} {oc2 kV2 dc2 pm2 cd2 ct2 : Value}
    {f3 : Addr}
    {od3 an3 : Option Addr} {sl3 : Array (Option Value)} {oc3 kV3 dc3 pm3 cd3 ct3 : Value}
    {f4 : Addr}
    {od4 an4 : Option Addr} {sl4 : Array (Option Value)} {oc4 kV4 dc4 pm4 cd4 ct4 : Value}
    {f5 : Addr}
    {od5 an5 : Option Addr} {sl5 : Array (Option Value)} {oc5 kV5 dc5 pm5 cd5 ct5 : Value}
    {f6 : Addr}
    {od6 an6 : Option Addr} {sl6 : Array (Option Value)} {oc6 kV6 dc6 pm6 cd6 ct6 : Value}
    {f7 : Addr}
    {od7 an7 : Option Addr} {sl7 : Array (Option Value)} {oc7 kV7 dc7 pm7 cd7 ct7 : Value}
    {f8 : Addr}
    {od8 an8 : Option Addr} {sl8 : Array (Option Value)} {oc8 kV8 dc8 pm8 cd8 ct8 : Value}
    {f9 : Addr}
    {od9 an9 : Option Addr} {sl9 : Array (Option Value)} {oc9 kV9 dc9 pm9 cd9 ct9 : Value}
    {od10 an10 : Option Addr} {sl10 : Array (Option Value)} {oc10 kV10 dc10 pm10 cd10 ct10 : Value}
    {TT10 : Addr} {odT10 : Option Addr} {slT10 : Array (Option Value)} {ocT10 : Value} {nT10 : Nat} {E1 : Addr}
    {od11 an11 : Option Addr} {sl11 : Array (Option Value)} {oc11 kV11 dc11 pm11 cd11 ct11 : Value}
    {od12 an12 : Option Addr} {sl12 : Array (Option Value)} {oc12 kV12 dc12 pm12 cd12 ct12 : Value}
    {od13 an13 : Option Addr} {sl13 : Array (Option Value)} {oc13 kV13 dc13 pm13 cd13 ct13 : Value}
    {f14 : Addr}
    {od14 an14 : Option Addr} {sl14 : Array (Option Value)} {oc14 kV14 dc14 pm14 cd14 ct14 : Value}
    {f15 : Addr}
    {od15 an15 : Option Addr} {sl15 : Array (Option Value)} {oc15 kV15 dc15 pm15 cd15 ct15 : Value}
    {f16 : Addr}
    {od16 an16 : Option Addr} {sl16 : Array (Option Value)} {oc16 kV16 dc16 pm16 cd16 ct16 : Value}
    {f17 : Addr}
    {od17 an17 : Option Addr} {sl17 : Array (Option Value)} {oc17 kV17 dc17 pm17 cd17 ct17 : Value}
    {f18 : Addr}
    {od18 an18 : Option Addr} {sl18 : Array (Option Value)} {oc18 kV18 dc18 pm18 cd18 ct18 : Value}
    {f19 : Addr}
    {od19 an19 : Option Addr} {sl19 : Array (Option Value)} {oc19 kV19 dc19 pm19 cd19 ct19 : Value}
    {f20 : Addr}
    {od20 an20 : Option Addr} {sl20 : Array (Option Value)} {oc20 kV20 dc20 pm20 cd20 ct20 : Value}
    {f21 : Addr}
    {od21 an21 : Option Addr} {sl21 : Array (Option Value)} {oc21 kV21 dc21 pm21 ct21 : Value}
    {cL Pt : Addr} {odL : Option Addr} {slL : Array (Option Value)} {tcL u0_ u1_ u2_ u3_ u4_ u5_ u6_ u7_ u8_ u9_ u10_ : Value} {urL : List Value}
    {kW kC : Tok}
    {odE1 : Option Addr}
    {nE1 : Nat}
    {slE1 : Array (Option Value)}
    (aC_Coder : PySem.W.nsIn K mainGlobals "Coder" = some (some (.ref C_Coder)))
    (pg_Coder : PySem.W.plainGet K C_Coder Str.empty = true)
    (hd_Coder : PySem.W.hasDictIn K C_Coder = true)
    (po_Coder : PySem.W.plainOver K C_Coder = true)
    (sa_Coder : PySem.W.findIn K (.ref C_Coder) "__setattr__" = some (some (.builtin "object.__setattr__")))
    (na_Coder_width : PySem.W.findIn K (.ref C_Coder) "width" = some none)
    (na_Coder_stream : PySem.W.findIn K (.ref C_Coder) "stream" = some none)
    (mk_Coder : PySem.W.makesIn K C_Coder = true)
    (in_Coder : PySem.W.findIn K (.ref C_Coder) "__init__" = some (some (.ref f10)))
    (fn_Coder : PySem.W.isFn K (.ref f10) = true)
    (kp_Coder : PySem.W.keepIn K (.ref C_Coder) = true)
    (mt_Coder_put : PySem.W.findIn K (.ref C_Coder) "put" = some (some (.ref f12)))
    (mf_Coder_put : PySem.W.isFn K (.ref f12) = true)
    (mt_Coder_packets : PySem.W.findIn K (.ref C_Coder) "packets" = some (some (.ref f13)))
    (mf_Coder_packets : PySem.W.isFn K (.ref f13) = true)
    (oe_Coder : PySem.W.findIn K (.ref C_Coder) "__eq__" = some (some (.ref f11)))
    (of_Coder : PySem.W.isFn K (.ref f11) = true)
    (on_Coder : PySem.W.findIn K (.ref C_Coder) "__ne__" = some (some (.builtin "object.__ne__")))
    (om_Coder : PySem.W.mroIn K C_Coder (.type "object") = some true)
    (i1_Coder : PySem.W.findIn K (.ref C_Coder) "__class__" = some (some (.builtin "object.__class__")))
    (i2_ : PySem.W.specialIn K (.builtin "object.__class__") "__get__" = some (some (.builtin "getset_descriptor.__get__")))
    (i3_ : PySem.W.takesIn K (.builtin "object.__class__") = some true)
    (aC_AskedError : PySem.W.nsIn K mainGlobals "AskedError" = some (some (.ref C_AskedError)))
    (rd_AskedError : PySem.W.readsIn K C_AskedError (.type "type") = true)
    (ga_AskedError : PySem.W.specialIn K (.ref C_AskedError) "__getattribute__" = some (some (.builtin "type.__getattribute__")))
    (vi_AskedError : PySem.W.findCls K (.ref C_AskedError) (.type "type") "__init__" = some (.val (.builtin "ValueError.__init__")))
    (aC_BadStream : PySem.W.nsIn K mainGlobals "BadStream" = some (some (.ref C_BadStream)))
    (xL_BadStream : K.lookup C_BadStream = some (excClassObj nm_BadStream q_BadStream C_BadStream N_BadStream bs_BadStream [.ref C_AskedError, .type "ValueError", .type "Exception", .type "BaseException", .type "object"] true sn_BadStream sub_BadStream ab_BadStream col_BadStream dd_BadStream m0_BadStream m1_BadStream m2_BadStream m3_BadStream m5_BadStream "ValueError.__new__"))
    (sa_BadStream : PySem.W.findIn K (.ref C_BadStream) "__setattr__" = some (some (.builtin "object.__setattr__")))
    (xa_BadStream : PySem.W.findIn K (.ref C_BadStream) "__getattribute__" = some (some (.builtin "BaseException.__getattribute__")))
    (xg_BadStream : PySem.W.findIn K (.ref C_BadStream) "__getattr__" = some none)
    (na_BadStream_what : PySem.W.findIn K (.ref C_BadStream) "what" = some none)
    (in_BadStream : PySem.W.findIn K (.ref C_BadStream) "__init__" = some (some (.ref f0)))
    (ti_BadStream : PySem.W.typeIn K (.ref f0) = some (.type "function"))
    (kp_BadStream : PySem.W.keepIn K (.ref C_BadStream) = true)
    (ex_BadStream : PySem.W.subIn K (.ref C_BadStream) (.type "BaseException") = some true)
    (vb_BadStream : PySem.W.subIn K (.ref C_BadStream) (.type "ValueError") = some true)
    (ty_BadStream : PySem.W.typeIn K (.ref C_BadStream) = some (.type "type"))
    (hd_BadStream : PySem.W.hasDictIn K C_BadStream = true)
    (ic_BadStream : PySem.W.isClsIn K C_BadStream = true)
    (sc_BadStream : PySem.W.subIn K (.ref C_BadStream) (.ref C_BadStream) = some true)
    (lI_BadStream : K.lookup f0 = some ⟨oc0, od0, .func (PySem.W.ksFn "__init__" "BadStream.__init__" (defArgs s_BadStream___init) (defBody s_BadStream___init) (defScope s_BadStream___init) .none kV0 dc0 pm0 an0 (.ref co_BadStream) ct0 cc_BadStream), sl0⟩)
    (hc_BadStream : PySem.W.codeIn K (.ref co_BadStream) "BadStream.__init__" = true)
    (lcc_BadStream : K.lookup cc_BadStream = some ⟨td_BadStream, odd_BadStream, .cell (some (.ref DD_BadStream)), sld_BadStream⟩)
    (mr_BadStream : PySem.W.mroIn K C_BadStream (.ref DD_BadStream) = some true)
    (su_BadStream : PySem.W.ks_superIn K C_BadStream DD_BadStream "__init__" = some (some (.builtin "ValueError.__init__")))
    (lco_BadStream : K.lookup co_BadStream = some ⟨tc_BadStream, odc_BadStream, .fields ⟨v0_BadStream :: v1_BadStream :: .str file_BadStream tf_BadStream :: vr_BadStream⟩, slc_BadStream⟩)
    (cl_BadStream : PySem.W.clsIn K DD_BadStream = some cls_BadStream)
    (fi_BadStream : ((l.prog.main.file : Str) == file_BadStream) = true)
    (any_ : PySem.W.nsIn K cStatics "thirdparty.any" = some none)
    (zsu_ : PySem.W.nsIn K mainGlobals "super" = some none)
    (tp_ : (l.prog.main.scope.names.lookup ("super" : Str)).isSome = false)
    (a1 : PySem.W.nsIn K mainGlobals "is_whole" = some (some (.ref f1)))
    (l1 : K.lookup f1 = some ⟨oc1, od1, .func (PySem.W.fnOf "is_whole" "is_whole" (defArgs s_is_whole) (defBody s_is_whole) (defScope s_is_whole) .none kV1 dc1 pm1 an1 cd1 ct1), sl1⟩)
    (c1 : PySem.W.codeIn K cd1 "is_whole" = true)
    (k1 : PySem.W.keepIn K (.ref f1) = true)
    (a2 : PySem.W.nsIn K mainGlobals "is_row" = some (some (.ref f2)))
    (l2 : K.lookup f2 = some ⟨oc2, od2, .func (PySem.W.fnOf "is_row" "is_row" (defArgs s_is_row) (defBody s_is_row) (defScope s_is_row) .none kV2 dc2 pm2 an2 cd2 ct2), sl2⟩)
    (c2 : PySem.W.codeIn K cd2 "is_row" = true)
    (k2 : PySem.W.keepIn K (.ref f2) = true)
    (a3 : PySem.W.nsIn K mainGlobals "is_from_to" = some (some (.ref f3)))
    (l3 : K.lookup f3 = some ⟨oc3, od3, .func (PySem.W.fnOf "is_from_to" "is_from_to" (defArgs s_is_from_to) (defBody s_is_from_to) (defScope s_is_from_to) .none kV3 dc3 pm3 an3 cd3 ct3), sl3⟩)
    (c3 : PySem.W.codeIn K cd3 "is_from_to" = true)
    (k3 : PySem.W.keepIn K (.ref f3) = true)
    (a4 : PySem.W.nsIn K mainGlobals "check_width" = some (some (.ref f4)))
    (l4 : K.lookup f4 = some ⟨oc4, od4, .func (PySem.W.fnOf "check_width" "check_width" (defArgs s_check_width) (defBody s_check_width) (defScope s_check_width) .none kV4 dc4 pm4 an4 cd4 ct4), sl4⟩)
    (c4 : PySem.W.codeIn K cd4 "check_width" = true)
    (k4 : PySem.W.keepIn K (.ref f4) = true)
    (a5 : PySem.W.nsIn K mainGlobals "check_values" = some (some (.ref f5)))
    (l5 : K.lookup f5 = some ⟨oc5, od5, .func (PySem.W.fnOf "check_values" "check_values" (defArgs s_check_values) (defBody s_check_values) (defScope s_check_values) .none kV5 dc5 pm5 an5 cd5 ct5), sl5⟩)
    (c5 : PySem.W.codeIn K cd5 "check_values" = true)
    (k5 : PySem.W.keepIn K (.ref f5) = true)
    (a6 : PySem.W.nsIn K mainGlobals "choices" = some (some (.ref f6)))
    (l6 : K.lookup f6 = some ⟨oc6, od6, .func (PySem.W.fnOf "choices" "choices" (defArgs s_choices) (defBody s_choices) (defScope s_choices) .none kV6 dc6 pm6 an6 cd6 ct6), sl6⟩)
    (c6 : PySem.W.codeIn K cd6 "choices" = true)
    (k6 : PySem.W.keepIn K (.ref f6) = true)
    (a7 : PySem.W.nsIn K mainGlobals "weights_of" = some (some (.ref f7)))
    (l7 : K.lookup f7 = some ⟨oc7, od7, .func (PySem.W.fnOf "weights_of" "weights_of" (defArgs s_weights_of) (defBody s_weights_of) (defScope s_weights_of) .none kV7 dc7 pm7 an7 cd7 ct7), sl7⟩)
    (c7 : PySem.W.codeIn K cd7 "weights_of" = true)
    (k7 : PySem.W.keepIn K (.ref f7) = true)
    (a8 : PySem.W.nsIn K mainGlobals "packet_at" = some (some (.ref f8)))
    (l8 : K.lookup f8 = some ⟨oc8, od8, .func (PySem.W.fnOf "packet_at" "packet_at" (defArgs s_packet_at) (defBody s_packet_at) (defScope s_packet_at) .none kV8 dc8 pm8 an8 cd8 ct8), sl8⟩)
    (c8 : PySem.W.codeIn K cd8 "packet_at" = true)
    (k8 : PySem.W.keepIn K (.ref f8) = true)
    (a9 : PySem.W.nsIn K mainGlobals "encode" = some (some (.ref f9)))
    (l9 : K.lookup f9 = some ⟨oc9, od9, .func (PySem.W.fnOf "encode" "encode" (defArgs s_encode) (defBody s_encode) (defScope s_encode) .none kV9 dc9 pm9 an9 cd9 ct9), sl9⟩)
    (c9 : PySem.W.codeIn K cd9 "encode" = true)
    (k9 : PySem.W.keepIn K (.ref f9) = true)
    (l10 : K.lookup f10 = some ⟨oc10, od10, .func (PySem.W.fnOf "__init__" "Coder.__init__" (defArgs s_Coder___init) (defBody s_Coder___init) (defScope s_Coder___init) (.ref TT10) kV10 dc10 pm10 an10 cd10 ct10), sl10⟩)
    (c10 : PySem.W.codeIn K cd10 "Coder.__init__" = true)
    (k10 : PySem.W.keepIn K (.ref f10) = true)
    (lT10 : K.lookup TT10 = some ⟨ocT10, odT10, .seq #[.ref E1] nT10, slT10⟩)
    (l11 : K.lookup f11 = some ⟨oc11, od11, .func (PySem.W.fnOf "__eq__" "Coder.__eq__" (defArgs s_Coder___eq) (defBody s_Coder___eq) (defScope s_Coder___eq) .none kV11 dc11 pm11 an11 cd11 ct11), sl11⟩)
    (c11 : PySem.W.codeIn K cd11 "Coder.__eq__" = true)
    (k11 : PySem.W.keepIn K (.ref f11) = true)
    (l12 : K.lookup f12 = some ⟨oc12, od12, .func (PySem.W.fnOf "put" "Coder.put" (defArgs s_Coder_put) (defBody s_Coder_put) (defScope s_Coder_put) .none kV12 dc12 pm12 an12 cd12 ct12), sl12⟩)
    (c12 : PySem.W.codeIn K cd12 "Coder.put" = true)
    (k12 : PySem.W.keepIn K (.ref f12) = true)
    (l13 : K.lookup f13 = some ⟨oc13, od13, .func (PySem.W.fnOf "packets" "Coder.packets" (defArgs s_Coder_packets) (defBody s_Coder_packets) (defScope s_Coder_packets) .none kV13 dc13 pm13 an13 cd13 ct13), sl13⟩)
    (c13 : PySem.W.codeIn K cd13 "Coder.packets" = true)
    (k13 : PySem.W.keepIn K (.ref f13) = true)
    (a14 : PySem.W.nsIn K mainGlobals "_law_bag" = some (some (.ref f14)))
    (l14 : K.lookup f14 = some ⟨oc14, od14, .func (PySem.W.fnOf "_law_bag" "_law_bag" (defArgs s_law_bag) (defBody s_law_bag) (defScope s_law_bag) .none kV14 dc14 pm14 an14 cd14 ct14), sl14⟩)
    (c14 : PySem.W.codeIn K cd14 "_law_bag" = true)
    (k14 : PySem.W.keepIn K (.ref f14) = true)
    (a15 : PySem.W.nsIn K mainGlobals "_law_draw" = some (some (.ref f15)))
    (l15 : K.lookup f15 = some ⟨oc15, od15, .func (PySem.W.fnOf "_law_draw" "_law_draw" (defArgs s_law_draw) (defBody s_law_draw) (defScope s_law_draw) .none kV15 dc15 pm15 an15 cd15 ct15), sl15⟩)
    (c15 : PySem.W.codeIn K cd15 "_law_draw" = true)
    (k15 : PySem.W.keepIn K (.ref f15) = true)
    (a16 : PySem.W.nsIn K mainGlobals "_law_number" = some (some (.ref f16)))
    (l16 : K.lookup f16 = some ⟨oc16, od16, .func (PySem.W.fnOf "_law_number" "_law_number" (defArgs s_law_number) (defBody s_law_number) (defScope s_law_number) .none kV16 dc16 pm16 an16 cd16 ct16), sl16⟩)
    (c16 : PySem.W.codeIn K cd16 "_law_number" = true)
    (k16 : PySem.W.keepIn K (.ref f16) = true)
    (a17 : PySem.W.nsIn K mainGlobals "_law_number_row" = some (some (.ref f17)))
    (l17 : K.lookup f17 = some ⟨oc17, od17, .func (PySem.W.fnOf "_law_number_row" "_law_number_row" (defArgs s_law_number_row) (defBody s_law_number_row) (defScope s_law_number_row) .none kV17 dc17 pm17 an17 cd17 ct17), sl17⟩)
    (c17 : PySem.W.codeIn K cd17 "_law_number_row" = true)
    (k17 : PySem.W.keepIn K (.ref f17) = true)
    (a18 : PySem.W.nsIn K mainGlobals "_law_pascal" = some (some (.ref f18)))
    (l18 : K.lookup f18 = some ⟨oc18, od18, .func (PySem.W.fnOf "_law_pascal" "_law_pascal" (defArgs s_law_pascal) (defBody s_law_pascal) (defScope s_law_pascal) .none kV18 dc18 pm18 an18 cd18 ct18), sl18⟩)
    (c18 : PySem.W.codeIn K cd18 "_law_pascal" = true)
    (k18 : PySem.W.keepIn K (.ref f18) = true)
    (a19 : PySem.W.nsIn K mainGlobals "_law_packets" = some (some (.ref f19)))
    (l19 : K.lookup f19 = some ⟨oc19, od19, .func (PySem.W.fnOf "_law_packets" "_law_packets" (defArgs s_law_packets) (defBody s_law_packets) (defScope s_law_packets) .none kV19 dc19 pm19 an19 cd19 ct19), sl19⟩)
    (c19 : PySem.W.codeIn K cd19 "_law_packets" = true)
    (k19 : PySem.W.keepIn K (.ref f19) = true)
    (a20 : PySem.W.nsIn K mainGlobals "_law_bad_stream" = some (some (.ref f20)))
    (l20 : K.lookup f20 = some ⟨oc20, od20, .func (PySem.W.fnOf "_law_bad_stream" "_law_bad_stream" (defArgs s_law_bad_stream) (defBody s_law_bad_stream) (defScope s_law_bad_stream) .none kV20 dc20 pm20 an20 cd20 ct20), sl20⟩)
    (c20 : PySem.W.codeIn K cd20 "_law_bad_stream" = true)
    (k20 : PySem.W.keepIn K (.ref f20) = true)
    (a21 : PySem.W.nsIn K mainGlobals "law" = some (some (.ref f21)))
    (l21 : K.lookup f21 = some ⟨oc21, od21, .func (PySem.W.fnOf "law" "law" (defArgs s_law) (defBody s_law) (defScope s_law) .none kV21 dc21 pm21 an21 (.ref cL) ct21), sl21⟩)
    (c21 : PySem.W.codeIn K (.ref cL) "law" = true)
    (k21 : PySem.W.keepIn K (.ref f21) = true)
    (zMW : PySem.W.nsIn K mainGlobals "MOST_WIDTH" = some (some (.int 4 kW)))
    (zMC : PySem.W.nsIn K mainGlobals "MOST_COUNT" = some (some (.int 30 kC)))
    (lE1 : K.lookup E1 = some ⟨.type "tuple", odE1, .seq #[] nE1, slE1⟩)
    (ic_A : PySem.W.isClsIn K C_AskedError = true)
    (ty_A : PySem.W.typeIn K (.ref C_AskedError) = some (.type "type"))
    (xc_BadStream : PySem.W.findIn K (.ref C_BadStream) "__class__" = some (some (.builtin "object.__class__")))
    (xm_BadStream : PySem.W.mroIn K C_BadStream (.type "object") = some true)
    (ka_BadStream : PySem.W.subIn K (.ref C_BadStream) (.ref C_AskedError) = some true)
    (z_len : PySem.W.nsIn K mainGlobals "len" = some none)
    (z_abs : PySem.W.nsIn K mainGlobals "abs" = some none)
    (z_sum : PySem.W.nsIn K mainGlobals "sum" = some none)
    (z_max : PySem.W.nsIn K mainGlobals "max" = some none)
    (z_min : PySem.W.nsIn K mainGlobals "min" = some none)
    (z_all : PySem.W.nsIn K mainGlobals "all" = some none)
    (z_any : PySem.W.nsIn K mainGlobals "any" = some none)
    (z_sorted : PySem.W.nsIn K mainGlobals "sorted" = some none)
    (z_isinstance : PySem.W.nsIn K mainGlobals "isinstance" = some none)
    (z_int : PySem.W.nsIn K mainGlobals "int" = some none)
    (z_bool : PySem.W.nsIn K mainGlobals "bool" = some none)
    (z_str : PySem.W.nsIn K mainGlobals "str" = some none)
    (z_list : PySem.W.nsIn K mainGlobals "list" = some none)
    (z_tuple : PySem.W.nsIn K mainGlobals "tuple" = some none)
    (z_range : PySem.W.nsIn K mainGlobals "range" = some none)
    (z_enumerate : PySem.W.nsIn K mainGlobals "enumerate" = some none)
    (z_dict : PySem.W.nsIn K mainGlobals "dict" = some none)
    (lcL : K.lookup cL = some ⟨tcL, odL, .fields ⟨u0_ :: u1_ :: u2_ :: u3_ :: u4_ :: u5_ :: u6_ :: u7_ :: u8_ :: u9_ :: u10_ :: .ref Pt :: urL⟩, slL⟩)
    (lP : K.lookup Pt = none)
    : ∃ (c Pt : Addr) (fd : FuncData), PySem.W.tabIn K "law" = some (c, Pt) ∧ K.lookup Pt = none ∧ (∀ (s : Shared) (v : Value), BindsTo s fd ⟨[v], []⟩ [("script", v)]) ∧ ∀ base : Heap, K.In base → base.Ns mainGlobals mg → LamX.TabB base mg c Pt → FnOk l.prog w K mg base CX0 11 fa fd ["script"] (spLawT K Pt) := by
  have e := hfa.symm.trans (PySem.W.mg_of X G a21)
  cases e
  have T : Txt mg := ⟨PySem.W.mg_none_of X G z_len, PySem.W.mg_none_of X G z_abs, PySem.W.mg_none_of X G z_sum, PySem.W.mg_none_of X G z_max, PySem.W.mg_none_of X G z_min, PySem.W.mg_none_of X G z_all, PySem.W.mg_none_of X G z_any, PySem.W.mg_none_of X G z_sorted, PySem.W.mg_none_of X G z_isinstance, PySem.W.mg_none_of X G z_int, PySem.W.mg_none_of X G z_bool, PySem.W.mg_none_of X G z_str, PySem.W.mg_none_of X G z_list, PySem.W.mg_none_of X G z_tuple, PySem.W.mg_none_of X G z_range, PySem.W.mg_none_of X G z_enumerate, PySem.W.mg_none_of X G z_dict⟩
  have tL_ : PySem.W.tabIn K "law" = some (cL, Pt) := by unfold PySem.W.tabIn; rw [a21]; show (match K.lookup fa with | _ => _) = _; rw [l21]; show (match K.lookup cL with | _ => _) = _; rw [lcL]; rfl
  refine ⟨cL, Pt, PySem.W.fnOf "law" "law" (defArgs s_law) (defBody s_law) (defScope s_law) .none kV21 dc21 pm21 an21 (.ref cL) ct21, tL_, lP, fun s v => .of_eq rfl, fun base _ _ TB => ?_⟩
  have T4 : Txt44 mg kW kC := ⟨T, PySem.W.mg_of X G zMW, PySem.W.mg_of X G zMC⟩
  have hE1 : ∀ H, Rp K H (.ref E1) (.tup []) := fun H => .tup (.inr ⟨_, _, _, lE1, rfl, rfl, Nat.le_of_ble_eq_true rfl, (show Vals [] _ from .nil)⟩) .nil
  have Cl_Coder : Cls K C_Coder := ⟨pg_Coder, hd_Coder, po_Coder, sa_Coder⟩
  have TI_Coder : IsaT K C_Coder := ⟨i1_Coder, i2_, i3_, om_Coder⟩
  have gC_Coder := PySem.W.mg_of X G aC_Coder
  have TC : CoT K C_Coder := ⟨Cl_Coder, na_Coder_width, na_Coder_stream⟩
  have EC_ := (⟨⟨xa_BadStream, xg_BadStream, ex_BadStream, hd_BadStream, xc_BadStream, i2_, i3_, xm_BadStream⟩, kitCls_own ic_BadStream ty_BadStream sc_BadStream⟩ : ErC K C_BadStream)
  have hk_ := kitOne_yes ic_A ty_A ka_BadStream
  have A_AskedError : AskC K C_AskedError ∧ mg "AskedError" = some (.ref C_AskedError) := ⟨⟨rd_AskedError, ga_AskedError, vi_AskedError⟩, PySem.W.mg_of X G aC_AskedError⟩
  have To_BadStream : OexC K C_BadStream := ⟨⟨nm_BadStream, q_BadStream, N_BadStream, bs_BadStream, _, sn_BadStream, sub_BadStream, ab_BadStream, col_BadStream, dd_BadStream, m0_BadStream, m1_BadStream, m2_BadStream, m3_BadStream, m5_BadStream, xL_BadStream, (show PySem.HandSPX.refsVE [.type "ValueError", .type "Exception", .type "BaseException", .type "object"] = true by decide +kernel)⟩, sa_BadStream, ex_BadStream, ty_BadStream, kp_BadStream⟩
  have F0 : FunS l.prog K mg C_BadStream "BadStream.__init__" "self" s_BadStream___init f0 co_BadStream cc_BadStream _ := ⟨⟨_, _, _, _, _, _, _, _, _, rfl, lI_BadStream, hc_BadStream⟩, ⟨_, rfl, rfl⟩, ⟨_, _, _, _, lco_BadStream, rfl, rfl, fi_BadStream⟩, tp_, PySem.W.mg_none_of X G zsu_, ⟨_, _, _, lcc_BadStream, rfl, cl_BadStream, mr_BadStream, su_BadStream⟩, vb_BadStream, any_⟩
  have b0 : Binds K (PySem.W.ksFn "__init__" "BadStream.__init__" (defArgs s_BadStream___init) (defBody s_BadStream___init) (defScope s_BadStream___init) .none kV0 dc0 pm0 an0 (.ref co_BadStream) ct0 cc_BadStream) ["self", "what"] [] := Binds.all fun us hl => match us, hl with | [_, _], _ => rfl
  let X_BadStream : XnS l.prog w K mg base "BadStream" ["what"] := ⟨C_BadStream, f0, _, ["self", "what"], To_BadStream, in_BadStream, ti_BadStream, ok_xstream F0  To_BadStream na_BadStream_what, b0, PySem.W.mg_of X G aC_BadStream, ⟨xa_BadStream, xg_BadStream, ex_BadStream, hd_BadStream⟩, (by simp only [List.forall_mem_cons]; exact ⟨na_BadStream_what, fun _ h => nomatch h⟩), exm_self ex_BadStream ic_BadStream ty_BadStream sc_BadStream⟩
  have F1 := fun_mk (st := s_is_whole) l1 c1 k1
  have b1 := F1.binds (ps := ["thing"]) fun _ _ _ _ _ _ us hl => match us, hl with | [_], _ => rfl
  let E_is_whole : Dn l.prog w K mg base "is_whole" 1 ["thing"] [] [] spWholeT := ⟨f1, _, ok_wholeT F1 T, PySem.W.mg_of X G a1, k1, b1, .nil⟩
  have F2 := fun_mk (st := s_is_row) l2 c2 k2
  have b2 := F2.binds (ps := ["thing"]) fun _ _ _ _ _ _ us hl => match us, hl with | [_], _ => rfl
  let E_is_row : Dn l.prog w K mg base "is_row" 1 ["thing"] [] [] spRowT := ⟨f2, _, ok_rowT F2 T, PySem.W.mg_of X G a2, k2, b2, .nil⟩
  have F3 := fun_mk (st := s_is_from_to) l3 c3 k3
  have b3 := F3.binds (ps := ["thing", "least", "most"]) fun _ _ _ _ _ _ us hl => match us, hl with | [_, _, _], _ => rfl
  let E_is_from_to : Dn l.prog w K mg base "is_from_to" 2 ["thing", "least", "most"] [] [] spFT := ⟨f3, _, ok_ft F3 T E_is_whole, PySem.W.mg_of X G a3, k3, b3, .nil⟩
  have F4 := fun_mk (st := s_check_width) l4 c4 k4
  have b4 := F4.binds (ps := ["width"]) fun _ _ _ _ _ _ us hl => match us, hl with | [_], _ => rfl
  let R_check_width : Dx l.prog w K mg base "check_width" 3 ["width"] (spCW C_BadStream) := ⟨f4, _, ok_cw F4 T4 X_BadStream E_is_from_to, PySem.W.mg_of X G a4, k4, b4⟩
  have F5 := fun_mk (st := s_check_values) l5 c5 k5
  have b5 := F5.binds (ps := ["values"]) fun _ _ _ _ _ _ us hl => match us, hl with | [_], _ => rfl
  let R_check_values : Dx l.prog w K mg base "check_values" 3 ["values"] (spCV C_BadStream) := ⟨f5, _, ok_cv F5 T4 X_BadStream E_is_row E_is_whole, PySem.W.mg_of X G a5, k5, b5⟩
  have F6 := fun_mk (st := s_choices) l6 c6 k6
  have b6 := F6.binds (ps := ["n", "k"]) fun _ _ _ _ _ _ us hl => match us, hl with | [_, _], _ => rfl
  let E_choices : Dn l.prog w K mg base "choices" 1 ["n", "k"] [] [] spCho := ⟨f6, _, ok_cho F6 T, PySem.W.mg_of X G a6, k6, b6, .nil⟩
  have F7 := fun_mk (st := s_weights_of) l7 c7 k7
  have b7 := F7.binds (ps := ["width", "place", "which"]) fun _ _ _ _ _ _ us hl => match us, hl with | [_, _, _], _ => rfl
  let E_weights_of : Dn l.prog w K mg base "weights_of" 2 ["width", "place", "which"] [] [] spWts := ⟨f7, _, ok_wts F7 T E_choices, PySem.W.mg_of X G a7, k7, b7, .nil⟩
  have F8 := fun_mk (st := s_packet_at) l8 c8 k8
  have b8 := F8.binds (ps := ["width", "values", "place"]) fun _ _ _ _ _ _ us hl => match us, hl with | [_, _, _], _ => rfl
  let E_packet_at : Dn l.prog w K mg base "packet_at" 3 ["width", "values", "place"] [] [] spPkt := ⟨f8, _, ok_pkt F8 T E_weights_of, PySem.W.mg_of X G a8, k8, b8, .nil⟩
  have F9 := fun_mk (st := s_encode) l9 c9 k9
  have b9 := F9.binds (ps := ["width", "values"]) fun _ _ _ _ _ _ us hl => match us, hl with | [_, _], _ => rfl
  let E_encode : Dn l.prog w K mg base "encode" 4 ["width", "values"] [] [] spEnc := ⟨f9, _, ok_encQ F9 T R_check_width R_check_values E_packet_at, PySem.W.mg_of X G a9, k9, b9, .nil⟩
  let R_encode : Dx l.prog w K mg base "encode" 4 ["width", "values"] (spEncX C_BadStream) := ⟨f9, _, ok_enc F9 T R_check_width R_check_values E_packet_at, PySem.W.mg_of X G a9, k9, b9⟩
  have F10 : FunD K "__init__" "Coder.__init__" (defArgs s_Coder___init) (defBody s_Coder___init) (defScope s_Coder___init) [.ref E1] [] f10 _ := ⟨⟨_, _, _, _, _, _, _, _, _, _, rfl, l10, c10, .inr ⟨by simp, TT10, _, [.ref E1], nT10, rfl, lT10, rfl, .cons rfl .nil⟩, .inl rfl⟩, k10⟩
  obtain ⟨dwR_Coder2, hvR_Coder2, bR_Coder2⟩ := F10.binds1 (ps := ["self", "width", "stream"]) 3 1 (by simp) rfl fun T kV doc pm an cdv ct us its h1 h2 => match us, its, h1, h2 with | [x0, x1, x2], [y0], _, _ => ⟨_, rfl, rfl⟩
  cases hvR_Coder2
  let R_Coder2 : Mnx l.prog w K mg base C_Coder "Coder" 4 ["self", "width", "stream"] [] [] (spCoderX C_BadStream) := ⟨f10, _, ⟨mk_Coder, in_Coder, fn_Coder, kp_Coder⟩, Cl_Coder, ok_coder F10 T TC R_check_width R_check_values, PySem.W.mg_of X G aC_Coder, bR_Coder2, .nil⟩
  obtain ⟨dwR_Coder1, hvR_Coder1, bR_Coder1⟩ := F10.binds1 (ps := ["self", "width", "stream"]) 2 0 (by simp) rfl fun T kV doc pm an cdv ct us its h1 h2 => match us, its, h1, h2 with | [x0, x1], [y0], _, _ => ⟨_, rfl, rfl⟩
  let R_Coder1 : Mnx l.prog w K mg base C_Coder "Coder" 4 ["self", "width", "stream"] [.ref E1] dwR_Coder1 (spCoderX C_BadStream) := ⟨f10, _, ⟨mk_Coder, in_Coder, fn_Coder, kp_Coder⟩, Cl_Coder, ok_coder F10 T TC R_check_width R_check_values, PySem.W.mg_of X G aC_Coder, bR_Coder1, hvR_Coder1⟩
  obtain ⟨itR_CoderK, kbR_CoderK⟩ := F10.kbindsD (ps := ["self", "width", "stream"]) 2 ["stream"] (fun vs ds zs => vs ++ zs) (by simp) (fun r1 _ r3 => r1.append r3) fun T kV doc pm an cdv ct us its ws h1 h2 h3 => match us, its, ws, h1, h2, h3 with | [x0, x1], [y0], [z0], _, _, _ => ⟨_, rfl, rfl⟩
  let R_CoderK : Mnk l.prog w K mg base C_Coder "Coder" 4 ["self", "width", "stream"] ["stream"] 1 (spCoderX C_BadStream) := ⟨f10, _, ⟨mk_Coder, in_Coder, fn_Coder, kp_Coder⟩, Cl_Coder, ok_coder F10 T TC R_check_width R_check_values, PySem.W.mg_of X G aC_Coder, _, kbR_CoderK⟩
  have F11 := fun_mk (st := s_Coder___eq) l11 c11 k11
  have b11 := F11.binds (ps := ["self", "other"]) fun _ _ _ _ _ _ us hl => match us, hl with | [_, _], _ => rfl
  let O_Coder : On l.prog w K mg base C_Coder 1 ["self", "other"] (spEqC C_Coder) := ⟨f11, _, ⟨oe_Coder, of_Coder, on_Coder, om_Coder⟩, ok_eqC F11 T TC TI_Coder gC_Coder, b11⟩
  have F12 := fun_mk (st := s_Coder_put) l12 c12 k12
  have b12 := F12.binds (ps := ["self", "value"]) fun _ _ _ _ _ _ us hl => match us, hl with | [_, _], _ => rfl
  let Q_put : Mt l.prog w K mg base C_Coder "put" 6 ["self", "value"] (spPut C_Coder) := ⟨f12, _, Cl_Coder, ⟨mt_Coder_put, mf_Coder_put, k12⟩, ok_putQ F12 T TC R_Coder2, b12⟩
  let S_put : Mx l.prog w K mg base C_Coder "put" 6 ["self", "value"] (spPutX C_BadStream C_Coder) := ⟨f12, _, Cl_Coder, ⟨mt_Coder_put, mf_Coder_put, k12⟩, ok_put F12 T TC R_Coder2, b12⟩
  have F13 := fun_mk (st := s_Coder_packets) l13 c13 k13
  have b13 := F13.binds (ps := ["self"]) fun _ _ _ _ _ _ us hl => match us, hl with | [_], _ => rfl
  let Q_packets : Mt l.prog w K mg base C_Coder "packets" 5 ["self"] (spPks C_Coder) := ⟨f13, _, Cl_Coder, ⟨mt_Coder_packets, mf_Coder_packets, k13⟩, ok_pks F13 T TC E_encode, b13⟩
  have F14 := fun_mk (st := s_law_bag) l14 c14 k14
  have b14 := F14.binds (ps := ["script"]) fun _ _ _ _ _ _ us hl => match us, hl with | [_], _ => rfl
  let E_law_bag : Dr l.prog w K mg base "_law_bag" 1 ["script"] (spBag K) := ⟨f14, _, ok_bag F14 T, PySem.W.mg_of X G a14, k14, b14, .nil⟩
  have F15 := fun_mk (st := s_law_draw) l15 c15 k15
  have b15 := F15.binds (ps := ["bag", "limit"]) fun _ _ _ _ _ _ us hl => match us, hl with | [_, _], _ => rfl
  let E_law_draw : Dn l.prog w K mg base "_law_draw" 1 ["bag", "limit"] [] [] spDraw := ⟨f15, _, ok_draw F15 T, PySem.W.mg_of X G a15, k15, b15, .nil⟩
  have F16 := fun_mk (st := s_law_number) l16 c16 k16
  have b16 := F16.binds (ps := ["bag"]) fun _ _ _ _ _ _ us hl => match us, hl with | [_], _ => rfl
  let E_law_number : Dn l.prog w K mg base "_law_number" 2 ["bag"] [] [] spNum := ⟨f16, _, ok_num F16 T E_law_draw, PySem.W.mg_of X G a16, k16, b16, .nil⟩
  have F17 := fun_mk (st := s_law_number_row) l17 c17 k17
  have b17 := F17.binds (ps := ["bag", "count"]) fun _ _ _ _ _ _ us hl => match us, hl with | [_, _], _ => rfl
  let E_law_number_row : Dn l.prog w K mg base "_law_number_row" 3 ["bag", "count"] [] [] spNums := ⟨f17, _, ok_nums F17 T E_law_number, PySem.W.mg_of X G a17, k17, b17, .nil⟩
  have F18 := fun_mk (st := s_law_pascal) l18 c18 k18
  have b18 := F18.binds (ps := ["many"]) fun _ _ _ _ _ _ us hl => match us, hl with | [_], _ => rfl
  let E_law_pascal : Dn l.prog w K mg base "_law_pascal" 1 ["many"] [] [] spPas := ⟨f18, _, ok_pas F18 T, PySem.W.mg_of X G a18, k18, b18, .nil⟩
  have F19 := fun_mk (st := s_law_packets) l19 c19 k19
  have b19 := F19.binds (ps := ["width", "values"]) fun _ _ _ _ _ _ us hl => match us, hl with | [_, _], _ => rfl
  let E_law_packets : Dn l.prog w K mg base "_law_packets" 2 ["width", "values"] [] [] spLPk := ⟨f19, _, ok_lpk F19 T E_law_pascal, PySem.W.mg_of X G a19, k19, b19, .nil⟩
  have F20 := fun_mk (st := s_law_bad_stream) l20 c20 k20
  have b20 := F20.binds (ps := ["what"]) fun _ _ _ _ _ _ us hl => match us, hl with | [_], _ => rfl
  have L_law_bad_stream : Dl K mg "_law_bad_stream" "what" s_law_bad_stream f20 := ⟨⟨_, _, _, _, _, _, _, _, _, _, l20, c20, b20⟩, PySem.W.mg_of X G a20, k20⟩
  exact ok_law ⟨⟨_, _, _, _, _, _, _, _, rfl, l21, c21⟩⟩ TB T hE1 TC X_BadStream A_AskedError.2 EC_ hk_ L_law_bad_stream E_law_bag E_law_draw E_law_number_row E_law_packets E_encode R_encode R_Coder2 R_Coder1 R_CoderK O_Coder Q_put S_put Q_packets
end Toy
open PySem PySem.W PyProof.Rows in
set_option maxRecDepth 100000 in
set_option maxHeartbeats 0 in
theorem PySem.Challenge.cw_askedtrue_k44_packets_by_pascals_table_holds : PySem.Challenge.rw_askedtrue_k44_packets_by_pascals_table.Holds := by
  w_on; o_law; k_head; (case hw => w_witness2)
  k_fill
  refine L3.walk_T (l := PySem.Challenge.rw_askedtrue_k44_packets_by_pascals_table) (n := 63) (k := 11) (x := "law") rfl (by decide) rfl ⟨rfl, by decide, by decide⟩ (fun w h Y => PySem.W.km_in_of Y) ?R ?F
  case R => first | rfl | kernel_rfl | decide +kernel
  case F =>
    intro w mg fa h KX G hmg
    refine' Toy.all_mk KX G hmg ?aC_Coder ?pg_Coder ?hd_Coder ?po_Coder ?sa_Coder ?na_Coder_width ?na_Coder_stream ?mk_Coder ?in_Coder ?fn_Coder ?kp_Coder ?mt_Coder_put ?mf_Coder_put ?mt_Coder_packets ?mf_Coder_packets ?oe_Coder ?of_Coder ?on_Coder ?om_Coder ?i1_Coder ?i2_ ?i3_ ?aC_AskedError ?rd_AskedError ?ga_AskedError ?vi_AskedError ?aC_BadStream ?xL_BadStream ?sa_BadStream ?xa_BadStream ?xg_BadStream ?na_BadStream_what ?in_BadStream ?ti_BadStream ?kp_BadStream ?ex_BadStream ?vb_BadStream ?ty_BadStream ?hd_BadStream ?ic_BadStream ?sc_BadStream ?lI_BadStream ?hc_BadStream ?lcc_BadStream ?mr_BadStream ?su_BadStream ?lco_BadStream ?cl_BadStream ?fi_BadStream ?any_ ?zsu_ ?tp_ ?a1 ?l1 ?c1 ?k1 ?a2 ?l2 ?c2 ?k2 ?a3 ?l3 ?c3 ?k3 ?a4 ?l4 ?c4 ?k4 ?a5 ?l5 ?c5 ?k5 ?a6 ?l6 ?c6 ?k6 ?a7 ?l7 ?c7 ?k7 ?a8 ?l8 ?c8 ?k8 ?a9 ?l9 ?c9 ?k9 ?l10 ?c10 ?k10 ?lT10 ?l11 ?c11 ?k11 ?l12 ?c12 ?k12 ?l13 ?c13 ?k13 ?a14 ?l14 ?c14 ?k14 ?a15 ?l15 ?c15 ?k15 ?a16 ?l16 ?c16 ?k16 ?a17 ?l17 ?c17 ?k17 ?a18 ?l18 ?c18 ?k18 ?a19 ?l19 ?c19 ?k19 ?a20 ?l20 ?c20 ?k20 ?a21 ?l21 ?c21 ?k21 ?zMW ?zMC ?lE1 ?ic_A ?ty_A ?xc_BadStream ?xm_BadStream ?ka_BadStream ?z_len ?z_abs ?z_sum ?z_max ?z_min ?z_all ?z_any ?z_sorted ?z_isinstance ?z_int ?z_bool ?z_str ?z_list ?z_tuple ?z_range ?z_enumerate ?z_dict ?lcL ?lP
    (case aC_Coder => k_is)
    (case pg_Coder => k_is)
    (case hd_Coder => k_is)
    (case po_Coder => k_is)
    (case sa_Coder => k_is)
    (case na_Coder_width => k_is)
    (case na_Coder_stream => k_is)
    (case mk_Coder => k_is)
    (case in_Coder => k_is)
    (case fn_Coder => k_is)
    (case kp_Coder => k_is)
    (case mt_Coder_put => k_is)
    (case mf_Coder_put => k_is)
    (case mt_Coder_packets => k_is)
    (case mf_Coder_packets => k_is)
    (case oe_Coder => k_is)
    (case of_Coder => k_is)
    (case on_Coder => k_is)
    (case om_Coder => k_is)
    (case i1_Coder => k_is)
    (case i2_ => k_is)
    (case i3_ => k_is)
    (case aC_AskedError => k_is)
    (case rd_AskedError => k_is)
    (case ga_AskedError => k_is)
    (case vi_AskedError => k_is)
    (case aC_BadStream => k_is)
    (case xL_BadStream => k_is)
    (case sa_BadStream => k_is)
    (case xa_BadStream => k_is)
    (case xg_BadStream => k_is)
    (case na_BadStream_what => k_is)
    (case in_BadStream => k_is)
    (case ti_BadStream => k_is)
    (case kp_BadStream => k_is)
    (case ex_BadStream => k_is)
    (case vb_BadStream => k_is)
    (case ty_BadStream => k_is)
    (case hd_BadStream => k_is)
    (case ic_BadStream => k_is)
    (case sc_BadStream => k_is)
    (case lI_BadStream => k_is)
    (case hc_BadStream => k_is)
    (case lcc_BadStream => k_is)
    (case mr_BadStream => k_is)
    (case su_BadStream => ks_is)
    (case lco_BadStream => k_is)
    (case cl_BadStream => k_is)
    (case fi_BadStream => first | rfl | decide +kernel | kernel_rfl)
    (case any_ => k_is)
    (case zsu_ => k_is)
    (case tp_ => first | rfl | decide +kernel | kernel_rfl)
    (case a1 => k_is)
    (case l1 => k_is)
    (case c1 => k_is)
    (case k1 => k_is)
    (case a2 => k_is)
    (case l2 => k_is)
    (case c2 => k_is)
    (case k2 => k_is)
    (case a3 => k_is)
    (case l3 => k_is)
    (case c3 => k_is)
    (case k3 => k_is)
    (case a4 => k_is)
    (case l4 => k_is)
    (case c4 => k_is)
    (case k4 => k_is)
    (case a5 => k_is)
    (case l5 => k_is)
    (case c5 => k_is)
    (case k5 => k_is)
    (case a6 => k_is)
    (case l6 => k_is)
    (case c6 => k_is)
    (case k6 => k_is)
    (case a7 => k_is)
    (case l7 => k_is)
    (case c7 => k_is)
    (case k7 => k_is)
    (case a8 => k_is)
    (case l8 => k_is)
    (case c8 => k_is)
    (case k8 => k_is)
    (case a9 => k_is)
    (case l9 => k_is)
    (case c9 => k_is)
    (case k9 => k_is)
    (case l10 => k_is)
    (case c10 => k_is)
    (case k10 => k_is)
    (case lT10 => k_is)
    (case l11 => k_is)
    (case c11 => k_is)
    (case k11 => k_is)
    (case l12 => k_is)
    (case c12 => k_is)
    (case k12 => k_is)
    (case l13 => k_is)
    (case c13 => k_is)
    (case k13 => k_is)
    (case a14 => k_is)
    (case l14 => k_is)
    (case c14 => k_is)
    (case k14 => k_is)
    (case a15 => k_is)
    (case l15 => k_is)
    (case c15 => k_is)
    (case k15 => k_is)
    (case a16 => k_is)
    (case l16 => k_is)
    (case c16 => k_is)
    (case k16 => k_is)
    (case a17 => k_is)
    (case l17 => k_is)
    (case c17 => k_is)
    (case k17 => k_is)
    (case a18 => k_is)
    (case l18 => k_is)
    (case c18 => k_is)
    (case k18 => k_is)
    (case a19 => k_is)
    (case l19 => k_is)
    (case c19 => k_is)
    (case k19 => k_is)
    (case a20 => k_is)
    (case l20 => k_is)
    (case c20 => k_is)
    (case k20 => k_is)
    (case a21 => k_is)
    (case l21 => k_is)
    (case c21 => k_is)
    (case k21 => k_is)
    (case zMW => k_is)
    (case zMC => k_is)
    (case lE1 => k_is)
    (case ic_A => k_is)
    (case ty_A => k_is)
    (case xc_BadStream => k_is)
    (case xm_BadStream => k_is)
    (case ka_BadStream => k_is)
    (case z_len => k_is)
    (case z_abs => k_is)
    (case z_sum => k_is)
    (case z_max => k_is)
    (case z_min => k_is)
    (case z_all => k_is)
    (case z_any => k_is)
    (case z_sorted => k_is)
    (case z_isinstance => k_is)
    (case z_int => k_is)
    (case z_bool => k_is)
    (case z_str => k_is)
    (case z_list => k_is)
    (case z_tuple => k_is)
    (case z_range => k_is)
    (case z_enumerate => k_is)
    (case z_dict => k_is)
    (case lcL => k_is)
    (case lP => first | rfl | kernel_rfl | decide +kernel)
