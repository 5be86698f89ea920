import PyProof.Rows.All
import Wide.All
import OpenK.AllK
import Wide.FinOn
import HandS.ForMost
import HandS.Wide
import KE.KDictKeyed
import KE.KeyNested
import HandS.ExcInit
import HandS.IsInst
import HandS.Deep
import HandS.TupAny
import KE.SortData
import HandS.Steps
import KE.KDictSum
import HandS.Defaults
import HandS.Dict
import KE.GoesEnum
import KE.GoesMore
import HandS.Iter
import HandS.SortKw
import HandS.DictEq
import KE.KEqDict
import HandS.Conv
import HandS.DictComp
import HandS.ExcField
import HandS.CallSlots
import HandS.WordsExc
import HandS.ClsMeth
import HandS.List
import HandS.More
import HandS.Style
import HandS.OwnEq
import HandS.Text
import HandS.Exc
import HandS.OwnIter
import HandS.IterVal
import PyProof.TupleIter
import PyProof.WalksMore
import KE.KOwnIter
import HandS.Lambda
import PyProof.NeKinds
import HandS.ExcIs
import PySem.Challenge.RW_askedtrue_k06_orders_refused_word_by_wor
set_option Elab.async false
set_option linter.all false
set_option maxRecDepth 100000
set_option maxHeartbeats 4000000
/-! L3: data in place of heaps: what a reading hands on, said of plain data. -/
namespace L3
open PySem L2

/-! ### data -/
inductive D where
  | non | bl (b : Bool) | int (i : Int) | str (s : Str) | lst (xs : List D) | tup (xs : List D) | obj (C : Addr) (fs : List (Str × D)) | adr (a : Addr) | ty (n : String) | dct (kvs : List (L2.Key × D)) | dcn (pr : Program) (wd : World) (kvs : List (D × D)) | er (C : Addr) (fs : List (Str × D))

mutual
/-- a key of a dict as the library tells it -/
def nk : D → NestedKey
  | .int i => .num i
  | .str s => .text s
  | .tup xs => .tup (nkAll xs)
  | _ => .none
def nkAll : List D → List NestedKey
  | [] => []
  | x :: xs => nk x :: nkAll xs
end
mutual
def nkOk : D → Bool
  | .non => true
  | .int _ => true
  | .str _ => true
  | .tup xs => nkOkAll xs
  | _ => false
def nkOkAll : List D → Bool
  | [] => true
  | x :: xs => nkOk x && nkOkAll xs
end
/-- fit for a key of a dict -/
def keyD : D → Bool
  | .tup xs => nkOkAll xs && decide ((nk (.tup xs)).depth ≤ 8)
  | _ => false
def DictBare (pr : Program) (wd : World) (xs : List (NestedKey × Addr × Value)) (a : Addr) (h : Heap) : Prop :=
  ∃ o es ep, h.get? a = some o ∧ o.ExactDict ∧ o.data = .dict es ep ∧ es.toList = xs.map (entryOfKey (nestedKind pr wd)) ∧ (xs.map (·.1)).Nodup
mutual
inductive Rp (K : PySem.W.Frag) (H : Hp) : V → D → Prop
  | non : Rp K H .non .non
  | bl (b : Bool) : Rp K H (.bl b) (.bl b)
  | int (i : Int) : Rp K H (.int i) (.int i)
  | str (x : Str) : Rp K H (.str x) (.str x)
  | lst {a : Addr} {xs : List V} {ds : List D} : Rd H a (.lst xs) → RpAll K H xs ds → Rp K H (.ref a) (.lst ds)
  | tup {a : Addr} {xs : List V} {ds : List D} : SqT K H a xs → RpAll K H xs ds → Rp K H (.ref a) (.tup ds)
  | obj {a C dx : Addr} {fs : List (Str × V)} {ds : List (Str × D)} : H a = some (.ins C dx fs) → RpFs K H fs ds → Rp K H (.ref a) (.obj C ds)
  | adr (a : Addr) : Rp K H (.ref a) (.adr a)
  | ty (n : String) : Rp K H (.ty n) (.ty n)
  | er {a C dx : Addr} {fs : List (Str × V)} {ds : List (Str × D)} : Rd H a (exo a C (some dx)) → Rd H dx (exd dx fs) → RpFs K H fs ds → Rp K H (.ref a) (.er C ds)
  | dct {a : Addr} {xs : List (L2.Key × V)} {kvs : List (L2.Key × D)} : Rd H a (.dK xs) → RpKs K H xs kvs → Rp K H (.ref a) (.dct kvs)
  | dcn {a : Addr} {pr : Program} {wd : World} {xs : List (NestedKey × Addr × Value)} {kvs : List (D × D)} : Rd H a (.ext (DictBare pr wd xs a)) → (a == sysModules) = false → RpNs K H xs kvs → Rp K H (.ref a) (.dcn pr wd kvs)
inductive RpAll (K : PySem.W.Frag) (H : Hp) : List V → List D → Prop
  | nil : RpAll K H [] []
  | cons {v : V} {vs : List V} {d : D} {ds : List D} : Rp K H v d → RpAll K H vs ds → RpAll K H (v :: vs) (d :: ds)
inductive RpFs (K : PySem.W.Frag) (H : Hp) : List (Str × V) → List (Str × D) → Prop
  | nil : RpFs K H [] []
  | cons {x : Str} {v : V} {vs : List (Str × V)} {d : D} {ds : List (Str × D)} : Rp K H v d → RpFs K H vs ds → RpFs K H ((x, v) :: vs) ((x, d) :: ds)
inductive RpKs (K : PySem.W.Frag) (H : Hp) : List (L2.Key × V) → List (L2.Key × D) → Prop
  | nil : RpKs K H [] []
  | cons {x : L2.Key} {v : V} {vs : List (L2.Key × V)} {d : D} {ds : List (L2.Key × D)} : Rp K H v d → RpKs K H vs ds → RpKs K H ((x, v) :: vs) ((x, d) :: ds)
inductive RpNs (K : PySem.W.Frag) (H : Hp) : List (NestedKey × Addr × Value) → List (D × D) → Prop
  | nil : RpNs K H [] []
  | cons {x : NestedKey × Addr × Value} {v : V} {xs : List (NestedKey × Addr × Value)} {kd d : D} {ds : List (D × D)} : keyD kd = true → x.1 = nk kd → Rp K H (.ref x.2.1) kd → RelV v x.2.2 → Rp K H v d → RpNs K H xs ds → RpNs K H (x :: xs) ((kd, d) :: ds)
end

theorem same_rd {H H' : Hp} {a : Addr} {u : HO} (e : Same H H') (h : Rd H a u) : Rd H' a u := by
  rcases h with h | ⟨o, h⟩
  · exact .inl (e a _ h)
  · exact .inr ⟨o, e a _ h⟩
theorem same_l {K : PySem.W.Frag} {H H' : Hp} {a : Addr} {xs : List V} (e : Same H H') (h : SqL K H a xs) : SqL K H' a xs := by
  rcases h with h | h
  · exact .inl (same_rd e h)
  · exact .inr h
theorem same_t {K : PySem.W.Frag} {H H' : Hp} {a : Addr} {xs : List V} (e : Same H H') (h : SqT K H a xs) : SqT K H' a xs := by
  rcases h with h | h
  · exact .inl (same_rd e h)
  · exact .inr h

section
variable {K : PySem.W.Frag} {H H' : Hp}
mutual
theorem Rp.mono (e : Same H H') : ∀ {v : V} {d : D}, Rp K H v d → Rp K H' v d
  | _, _, .non => .non
  | _, _, .bl b => .bl b
  | _, _, .int i => .int i
  | _, _, .str x => .str x
  | _, _, .lst h r => .lst (same_rd e h) (RpAll.mono e r)
  | _, _, .tup h r => .tup (same_t e h) (RpAll.mono e r)
  | _, _, .obj h r => .obj (e _ _ h) (RpFs.mono e r)
  | _, _, .adr a => .adr a
  | _, _, .ty n => .ty n
  | _, _, .er h1 h2 r => .er (same_rd e h1) (same_rd e h2) (RpFs.mono e r)
  | _, _, .dct h r => .dct (same_rd e h) (RpKs.mono e r)
  | _, _, .dcn h s r => .dcn (same_rd e h) s (RpNs.mono e r)
theorem RpAll.mono (e : Same H H') : ∀ {vs : List V} {ds : List D}, RpAll K H vs ds → RpAll K H' vs ds
  | _, _, .nil => .nil
  | _, _, .cons h r => .cons (Rp.mono e h) (RpAll.mono e r)
theorem RpFs.mono (e : Same H H') : ∀ {vs : List (Str × V)} {ds : List (Str × D)}, RpFs K H vs ds → RpFs K H' vs ds
  | _, _, .nil => .nil
  | _, _, .cons h r => .cons (Rp.mono e h) (RpFs.mono e r)
theorem RpKs.mono (e : Same H H') : ∀ {vs : List (L2.Key × V)} {ds : List (L2.Key × D)}, RpKs K H vs ds → RpKs K H' vs ds
  | _, _, .nil => .nil
  | _, _, .cons h r => .cons (Rp.mono e h) (RpKs.mono e r)
theorem RpNs.mono (e : Same H H') : ∀ {vs : List (NestedKey × Addr × Value)} {ds : List (D × D)}, RpNs K H vs ds → RpNs K H' vs ds
  | _, _, .nil => .nil
  | _, _, .cons a b h w v r => .cons a b (Rp.mono e h) w (Rp.mono e v) (RpNs.mono e r)
end
theorem RpAll.length : ∀ {vs : List V} {ds : List D}, RpAll K H vs ds → vs.length = ds.length
  | _, _, .nil => rfl
  | _, _, .cons _ r => by rw [List.length_cons, List.length_cons, RpAll.length r]
theorem RpAll.get : ∀ {vs : List V} {ds : List D} {i : Nat} {v : V}, RpAll K H vs ds → vs[i]? = some v → ∃ d, ds[i]? = some d ∧ Rp K H v d
  | _, _, _, _, .nil, e => by simp at e
  | _, _, 0, _, .cons h _, e => by simp at e; subst e; exact ⟨_, rfl, h⟩
  | _, _, i + 1, _, .cons _ r, e => by
    obtain ⟨d, h1, h2⟩ := RpAll.get (i := i) r (by simpa using e)
    exact ⟨d, by simpa using h1, h2⟩
theorem RpAll.get' : ∀ {vs : List V} {ds : List D} {i : Nat} {d : D}, RpAll K H vs ds → ds[i]? = some d → ∃ v, vs[i]? = some v ∧ Rp K H v d
  | _, _, _, _, .nil, e => by simp at e
  | _, _, 0, _, .cons h _, e => by simp at e; subst e; exact ⟨_, rfl, h⟩
  | _, _, i + 1, _, .cons _ r, e => by
    obtain ⟨d, h1, h2⟩ := RpAll.get' (i := i) r (by simpa using e)
    exact ⟨d, by simpa using h1, h2⟩
theorem RpAll.append : ∀ {vs ws : List V} {ds es : List D}, RpAll K H vs ds → RpAll K H ws es → RpAll K H (vs ++ ws) (ds ++ es)
  | _, _, _, _, .nil, s => s
  | _, _, _, _, .cons h r, s => .cons h (RpAll.append r s)
theorem RpAll.take : ∀ {vs : List V} {ds : List D} (n : Nat), RpAll K H vs ds → RpAll K H (vs.take n) (ds.take n)
  | _, _, 0, _ => .nil
  | _, _, _ + 1, .nil => .nil
  | _, _, n + 1, .cons h r => .cons h (RpAll.take n r)
theorem RpAll.drop : ∀ {vs : List V} {ds : List D} (n : Nat), RpAll K H vs ds → RpAll K H (vs.drop n) (ds.drop n)
  | _, _, 0, r => r
  | _, _, _ + 1, .nil => .nil
  | _, _, n + 1, .cons _ r => RpAll.drop n r
theorem RpAll.set {v : V} {d : D} (h : Rp K H v d) : ∀ {vs : List V} {ds : List D} (i : Nat), RpAll K H vs ds → RpAll K H (vs.set i v) (ds.set i d)
  | _, _, _, .nil => .nil
  | _, _, 0, .cons _ r => .cons h r
  | _, _, i + 1, .cons q r => .cons q (RpAll.set h i r)
theorem RpAll.eraseIdx : ∀ {vs : List V} {ds : List D} (i : Nat), RpAll K H vs ds → RpAll K H (vs.eraseIdx i) (ds.eraseIdx i)
  | _, _, _, .nil => .nil
  | _, _, 0, .cons _ r => r
  | _, _, i + 1, .cons q r => .cons q (RpAll.eraseIdx i r)
theorem RpAll.ints : ∀ {vs : List V} {ns : List Int}, RpAll K H vs (ns.map D.int) → vs = ns.map V.int
  | _, [], h => by cases h; rfl
  | _, n :: ns, h => by
    cases h with
    | cons h r => cases h; rw [RpAll.ints r]; rfl
theorem RpAll.ofInts : ∀ (ns : List Int), RpAll K H (ns.map V.int) (ns.map D.int)
  | [] => .nil
  | n :: ns => .cons (.int n) (RpAll.ofInts ns)
end

/-! ### hidden addresses -/
def hid (O : List Addr) (H : Hp) : Hp := fun a => if a ∈ O then none else H a
theorem hid_in {O : List Addr} {H : Hp} {a : Addr} (h : a ∈ O) : hid O H a = none := if_pos h
theorem hid_out {O : List Addr} {H : Hp} {a : Addr} (h : a ∉ O) : hid O H a = H a := if_neg h
theorem hid_some {O : List Addr} {H : Hp} {a : Addr} {o : HO} : hid O H a = some o ↔ a ∉ O ∧ H a = some o := by
  unfold hid
  by_cases h : a ∈ O
  · rw [if_pos h]; exact ⟨(fun e => nomatch e), fun e => absurd h e.1⟩
  · rw [if_neg h]; exact ⟨fun e => ⟨h, e⟩, fun e => e.2⟩
theorem hid_nil {H : Hp} : hid [] H = H := by
  funext a; exact hid_out (by simp)
theorem same_hid {O : List Addr} {H : Hp} : Same (hid O H) H := fun a o e => (hid_some.mp e).2
theorem same_hid_sub {O O' : List Addr} {H : Hp} (h : ∀ a, a ∈ O → a ∈ O') : Same (hid O' H) (hid O H) := fun a o e => by
  obtain ⟨h1, h2⟩ := hid_some.mp e
  exact hid_some.mpr ⟨fun q => h1 (h a q), h2⟩
theorem same_hid_of {O : List Addr} {H H' : Hp} (e : Same H H') : Same (hid O H) (hid O H') := fun a o q => by
  obtain ⟨h1, h2⟩ := hid_some.mp q
  exact hid_some.mpr ⟨h1, e a o h2⟩
/-- hiding more of two heaps that agree -/
theorem same_hid_more {O B : List Addr} {H H' : Hp} (h : ∀ a, a ∈ B → a ∈ O) (e : Same (hid B H) (hid B H')) : Same (hid O H) (hid O H') := fun a o q => by
  obtain ⟨h1, h2⟩ := hid_some.mp q
  exact hid_some.mpr ⟨h1, (hid_some.mp (e a o (hid_some.mpr ⟨fun q => h1 (h a q), h2⟩))).2⟩
theorem hid_upd_in {O : List Addr} {H : Hp} {a : Addr} {o : HO} (h : a ∈ O) : hid O (upd H a o) = hid O H := by
  funext b
  unfold hid
  by_cases hb : b ∈ O
  · rw [if_pos hb, if_pos hb]
  · rw [if_neg hb, if_neg hb, upd_ne (fun e => hb (by rw [e]; exact h))]
theorem same_upd_new {H : Hp} {p : Addr} {o : HO} (h : H p = none) : Same H (upd H p o) := fun b u e => by
  rw [upd_ne (ne_of_none e h)]; exact e
theorem hid_new_in {O : List Addr} {H : Hp} {p : Addr} {o : HO} (h : H p = none) : hid (p :: O) (upd H p o) = hid O H := by
  funext b
  unfold hid
  by_cases hb : b = p
  · subst hb
    rw [if_pos List.mem_cons_self]
    by_cases h2 : b ∈ O
    · rw [if_pos h2]
    · rw [if_neg h2, h]
  · by_cases h2 : b ∈ O
    · rw [if_pos (List.mem_cons_of_mem _ h2), if_pos h2]
    · rw [if_neg (fun q => by rcases List.mem_cons.mp q with e | e; exact hb e; exact h2 e), if_neg h2, upd_ne hb]

/-! ### the bag: a list of a list of non-negative ints, a turn, a rest -/
def BagOk (b q : Addr) (n : Nat) (H : Hp) : Prop :=
  ∃ (t r : Int) (cs : List Int), H b = some (.lst [.ref q, .int t, .int r]) ∧ H q = some (.lst (cs.map V.int)) ∧ cs ≠ [] ∧ (∀ c ∈ cs, 0 ≤ c) ∧ cs.length ≤ 63 ∧ 0 ≤ t ∧ t ≤ n ∧ 0 ≤ r
theorem BagOk.move {b q : Addr} {n : Nat} {H H' : Hp} (h : BagOk b q n H) (e : ∀ o, H b = some o → H' b = some o) (e2 : ∀ o, H q = some o → H' q = some o) : BagOk b q n H' := by
  obtain ⟨t, r, cs, h1, h2, h3⟩ := h
  exact ⟨t, r, cs, e _ h1, e2 _ h2, h3⟩
theorem BagOk.le {b q : Addr} {n m : Nat} {H : Hp} (h : BagOk b q n H) (hn : n ≤ m) : BagOk b q m H := by
  obtain ⟨t, r, cs, h1, h2, h4, h5, h6, h7, h8, h9⟩ := h
  exact ⟨t, r, cs, h1, h2, h4, h5, h6, h7, by omega, h9⟩
theorem BagOk.lst {b q : Addr} {n : Nat} {H : Hp} (h : BagOk b q n H) : ∃ xs, H b = some (.lst xs) := by
  obtain ⟨t, r, cs, h1, _⟩ := h
  exact ⟨_, h1⟩

/-! ### the context, slots -/
structure Ctx where
  pr : Program
  wd : World
  K : PySem.W.Frag
  /-- owned by callers -/
  O : List Addr
  bag : Option (Addr × Addr)
  /-- the heap at the entry -/
  H0 : Hp
def Ctx.B (c : Ctx) : List Addr := (c.bag.map (·.1)).toList
def Ctx.J (c : Ctx) (n : Nat) (H : Hp) : Prop := ∀ b q, c.bag = some (b, q) → BagOk b q n H
/-- a structure of one's own: its addresses, what it is -/
structure OT where
  ls : List Addr
  R : Program → World → PySem.W.Frag → List Addr → Hp → V → Prop
  mv : ∀ {pr wd K O O' H H' v}, R pr wd K O H v → (∀ l ∈ ls, H' l = H l) → (∀ v d, Rp K (hid O H) v d → Rp K (hid O' H') v d) → R pr wd K O' H' v
  ex : ∀ {pr wd K O H v}, R pr wd K O H v → ∀ l ∈ ls, ∃ o, H l = some o
inductive SD where
  | un
  | val (d : D)
  | own (ds : List D)
  | dic (kvs : List (D × D))
  | dk (kvs : List (L2.Key × D))
  | tw (l : Addr) (kvs : List (D × D)) (ds : List D)
  | ot (T : OT)
/-- one entry -/
def EntD (K : PySem.W.Frag) (H : Hp) (kv : D × D) (x : NestedKey × Addr × Value) : Prop := keyD kv.1 = true ∧ x.1 = nk kv.1 ∧ Rp K H (.ref x.2.1) kv.1 ∧ ∃ v, RelV v x.2.2 ∧ Rp K H v kv.2
def NDict (pr : Program) (wd : World) (K : PySem.W.Frag) (O : List Addr) (H : Hp) (l : Addr) (kvs : List (D × D)) : Prop :=
  ∃ xs, H l = some (.ext (DictBare pr wd xs l)) ∧ (l == sysModules) = false ∧ Paired (EntD K (hid O H)) kvs xs
theorem EntD.mono {K : PySem.W.Frag} {H H' : Hp} {kv : D × D} {x : NestedKey × Addr × Value} (e : Same H H') (h : EntD K H kv x) : EntD K H' kv x := by
  obtain ⟨h1, h2, h3, v, h4, h5⟩ := h
  exact ⟨h1, h2, h3.mono e, v, h4, h5.mono e⟩
theorem Paired.imp' {α β : Type} {R S : α → β → Prop} (f : ∀ a b, R a b → S a b) : ∀ {xs : List α} {ys : List β}, Paired R xs ys → Paired S xs ys
  | _, _, .nil => .nil
  | _, _, .cons h t => .cons (f _ _ h) (Paired.imp' f t)
theorem NDict.move {pr : Program} {wd : World} {K : PySem.W.Frag} {O O' : List Addr} {H H' : Hp} {l : Addr} {kvs : List (D × D)} (h : NDict pr wd K O H l kvs) (hl : H' l = H l) (e : Same (hid O H) (hid O' H')) : NDict pr wd K O' H' l kvs := by
  obtain ⟨xs, h1, h2, h3⟩ := h
  exact ⟨xs, hl.trans h1, h2, Paired.imp' (fun _ _ q => q.mono e) h3⟩
theorem RpNs.pair {K : PySem.W.Frag} {H : Hp} : ∀ {xs : List (NestedKey × Addr × Value)} {kvs : List (D × D)}, RpNs K H xs kvs → Paired (EntD K H) kvs xs
  | _, _, .nil => .nil
  | _, _, .cons a b h w v r => .cons ⟨a, b, h, _, w, v⟩ (RpNs.pair r)
theorem RpNs.of {K : PySem.W.Frag} {H : Hp} : ∀ {kvs : List (D × D)} {xs : List (NestedKey × Addr × Value)}, Paired (EntD K H) kvs xs → RpNs K H xs kvs
  | _, _, .nil => .nil
  | (kd, d) :: _, _, .cons ⟨a, b, h, _, w, v⟩ r => .cons a b h w v (RpNs.of r)
/-- a tuple whose head is a dict of one's own -/
def TDict (pr : Program) (wd : World) (K : PySem.W.Frag) (O : List Addr) (H : Hp) (t l : Addr) (kvs : List (D × D)) (ds : List D) : Prop :=
  ∃ vs, SqT K (hid O H) t (.ref l :: vs) ∧ RpAll K (hid O H) vs ds ∧ NDict pr wd K O H l kvs
theorem TDict.move {pr : Program} {wd : World} {K : PySem.W.Frag} {O O' : List Addr} {H H' : Hp} {t l : Addr} {kvs : List (D × D)} {ds : List D} (h : TDict pr wd K O H t l kvs ds) (hl : H' l = H l) (e : Same (hid O H) (hid O' H')) : TDict pr wd K O' H' t l kvs ds := by
  obtain ⟨vs, h1, h2, h3⟩ := h
  exact ⟨vs, same_t e h1, h2.mono e, h3.move hl e⟩
/-- a dict of one's own whose keys are ints and texts -/
def KDict (pr : Program) (wd : World) (K : PySem.W.Frag) (O : List Addr) (H : Hp) (l : Addr) (kvs : List (L2.Key × D)) : Prop := ∃ xs, H l = some (.dK xs) ∧ RpKs K (hid O H) xs kvs
theorem KDict.move {pr : Program} {wd : World} {K : PySem.W.Frag} {O O' : List Addr} {H H' : Hp} {l : Addr} {kvs : List (L2.Key × D)} (h : KDict pr wd K O H l kvs) (hl : H' l = H l) (e : Same (hid O H) (hid O' H')) : KDict pr wd K O' H' l kvs := by
  obtain ⟨xs, h1, h3⟩ := h
  exact ⟨xs, hl.trans h1, h3.mono e⟩
inductive Slots (pr : Program) (wd : World) (K : PySem.W.Frag) (O : List Addr) (H : Hp) : List (Option V) → List SD → List Addr → Prop
  | nil : Slots pr wd K O H [] [] []
  | un {x : Option V} {σ : List (Option V)} {ρ : List SD} {L : List Addr} : Slots pr wd K O H σ ρ L → Slots pr wd K O H (x :: σ) (.un :: ρ) L
  | val {v : V} {d : D} {σ : List (Option V)} {ρ : List SD} {L : List Addr} : Rp K (hid O H) v d → Slots pr wd K O H σ ρ L → Slots pr wd K O H (some v :: σ) (.val d :: ρ) L
  | own {l : Addr} {xs : List V} {ds : List D} {σ : List (Option V)} {ρ : List SD} {L : List Addr} : H l = some (.lst xs) → RpAll K (hid O H) xs ds → Slots pr wd K O H σ ρ L → Slots pr wd K O H (some (.ref l) :: σ) (.own ds :: ρ) (l :: L)
  | dic {l : Addr} {kvs : List (D × D)} {σ : List (Option V)} {ρ : List SD} {L : List Addr} : NDict pr wd K O H l kvs → Slots pr wd K O H σ ρ L → Slots pr wd K O H (some (.ref l) :: σ) (.dic kvs :: ρ) (l :: L)
  | dk {l : Addr} {kvs : List (L2.Key × D)} {σ : List (Option V)} {ρ : List SD} {L : List Addr} : KDict pr wd K O H l kvs → Slots pr wd K O H σ ρ L → Slots pr wd K O H (some (.ref l) :: σ) (.dk kvs :: ρ) (l :: L)
  | tw {t l : Addr} {kvs : List (D × D)} {ds : List D} {σ : List (Option V)} {ρ : List SD} {L : List Addr} : TDict pr wd K O H t l kvs ds → Slots pr wd K O H σ ρ L → Slots pr wd K O H (some (.ref t) :: σ) (.tw l kvs ds :: ρ) (l :: L)
  | ot {T : OT} {v : V} {σ : List (Option V)} {ρ : List SD} {L M : List Addr} : T.R pr wd K O H v → M = T.ls ++ L → Slots pr wd K O H σ ρ L → Slots pr wd K O H (some v :: σ) (.ot T :: ρ) M
/-- P: what has been seen to stand for good -/
structure Env (c : Ctx) (P : Hp) (L : List Addr) (n : Nat) (H : Hp) (σ : List (Option V)) (ρ : List SD) : Prop where
  nd : L.Nodup
  fresh : ∀ l ∈ L, c.H0 l = none ∧ l ∉ c.O
  slots : ∃ Ls, Slots c.pr c.wd c.K (L ++ c.O) H σ ρ Ls ∧ Ls.Sublist L
  lst : ∀ l ∈ L, ∃ o, H l = some o
  bag : c.J n H
  base : Same (hid c.B c.H0) (hid c.B H)
  pers : Same P (hid (L ++ c.O) H)
  bO : ∀ b q, c.bag = some (b, q) → b ∈ c.O ∧ q ∈ c.O ∧ q ≠ b
  al : ∀ o ∈ c.O, H o ≠ none

section
variable {pr : Program} {wd : World} {K : PySem.W.Frag} {O O' : List Addr} {H H' : Hp} {σ : List (Option V)} {ρ : List SD} {L : List Addr}
theorem Slots.len (s : Slots pr wd K O H σ ρ L) : σ.length = ρ.length := by
  induction s with
  | nil => rfl
  | un _ ih => simp [ih]
  | val _ _ ih => simp [ih]
  | own _ _ _ ih => simp [ih]
  | dic _ _ ih => simp [ih]
  | dk _ _ ih => simp [ih]
  | tw _ _ ih => simp [ih]
  | ot _ _ _ ih => simp [ih]
/-- the owned lists stand, all else that may be seen stands -/
theorem Slots.move (s : Slots pr wd K O H σ ρ L) (hL : ∀ l ∈ L, H' l = H l) (e : Same (hid O H) (hid O' H')) : Slots pr wd K O' H' σ ρ L := by
  induction s with
  | nil => exact .nil
  | un _ ih => exact .un (ih hL)
  | val h _ ih => exact .val (h.mono e) (ih hL)
  | own h1 h2 _ ih => exact .own ((hL _ List.mem_cons_self).trans h1) (h2.mono e) (ih fun l hl => hL l (List.mem_cons_of_mem _ hl))
  | dic h1 _ ih => exact .dic (h1.move (hL _ List.mem_cons_self) e) (ih fun l hl => hL l (List.mem_cons_of_mem _ hl))
  | dk h1 _ ih => exact .dk (h1.move (hL _ List.mem_cons_self) e) (ih fun l hl => hL l (List.mem_cons_of_mem _ hl))
  | tw h1 _ ih => exact .tw (h1.move (hL _ List.mem_cons_self) e) (ih fun l hl => hL l (List.mem_cons_of_mem _ hl))
  | ot h q _ ih => subst q; exact .ot (OT.mv _ h (fun l hl => hL l (List.mem_append_left _ hl)) fun _ _ r => r.mono e) rfl (ih fun l hl => hL l (List.mem_append_right _ hl))
theorem Slots.get {d : D} : ∀ {σ : List (Option V)} {ρ : List SD} {L : List Addr} {i : Nat}, Slots pr wd K O H σ ρ L → ρ[i]? = some (.val d) → ∃ v, σ[i]? = some (some v) ∧ Rp K (hid O H) v d
  | _, _, _, _, .nil, e => by simp at e
  | _, _, _, 0, .un _, e => by simp at e
  | _, _, _, i + 1, .un s, e => by simpa using Slots.get (i := i) s (by simpa using e)
  | _, _, _, 0, .val h _, e => by simp at e; subst e; exact ⟨_, rfl, h⟩
  | _, _, _, i + 1, .val _ s, e => by simpa using Slots.get (i := i) s (by simpa using e)
  | _, _, _, 0, .own _ _ _, e => by simp at e
  | _, _, _, i + 1, .own _ _ s, e => by simpa using Slots.get (i := i) s (by simpa using e)
  | _, _, _, 0, .dic _ _, e => by simp at e
  | _, _, _, 0, .dk _ _, e => by simp at e
  | _, _, _, 0, .tw _ _, e => by simp at e
  | _, _, _, i + 1, .dic _ s, e => by simpa using Slots.get (i := i) s (by simpa using e)
  | _, _, _, i + 1, .dk _ s, e => by simpa using Slots.get (i := i) s (by simpa using e)
  | _, _, _, i + 1, .tw _ s, e => by simpa using Slots.get (i := i) s (by simpa using e)
  | _, _, _, 0, .ot _ _ _, e => by simp at e
  | _, _, _, i + 1, .ot _ _ s, e => by simpa using Slots.get (i := i) s (by simpa using e)
theorem Slots.getO {ds : List D} : ∀ {σ : List (Option V)} {ρ : List SD} {L : List Addr} {i : Nat}, Slots pr wd K O H σ ρ L → ρ[i]? = some (.own ds) → ∃ l xs, σ[i]? = some (some (.ref l)) ∧ l ∈ L ∧ H l = some (.lst xs) ∧ RpAll K (hid O H) xs ds
  | _, _, _, _, .nil, e => by simp at e
  | _, _, _, 0, .un _, e => by simp at e
  | _, _, _, i + 1, .un s, e => by simpa using Slots.getO (i := i) s (by simpa using e)
  | _, _, _, 0, .val _ _, e => by simp at e
  | _, _, _, i + 1, .val _ s, e => by simpa using Slots.getO (i := i) s (by simpa using e)
  | _, _, _, 0, .own h r _, e => by simp at e; subst e; exact ⟨_, _, rfl, List.mem_cons_self, h, r⟩
  | _, _, _, i + 1, .own _ _ s, e => by
    obtain ⟨l, xs, h1, h2, h3⟩ := Slots.getO (i := i) s (by simpa using e)
    exact ⟨l, xs, by simpa using h1, List.mem_cons_of_mem _ h2, h3⟩
  | _, _, _, 0, .dic _ _, e => by simp at e
  | _, _, _, 0, .dk _ _, e => by simp at e
  | _, _, _, 0, .tw _ _, e => by simp at e
  | _, _, _, i + 1, .dic _ s, e => by
    obtain ⟨l, xs, h1, h2, h3⟩ := Slots.getO (i := i) s (by simpa using e)
    exact ⟨l, xs, by simpa using h1, List.mem_cons_of_mem _ h2, h3⟩
  | _, _, _, i + 1, .dk _ s, e => by
    obtain ⟨l, xs, h1, h2, h3⟩ := Slots.getO (i := i) s (by simpa using e)
    exact ⟨l, xs, by simpa using h1, List.mem_cons_of_mem _ h2, h3⟩
  | _, _, _, i + 1, .tw _ s, e => by
    obtain ⟨l, xs, h1, h2, h3⟩ := Slots.getO (i := i) s (by simpa using e)
    exact ⟨l, xs, by simpa using h1, List.mem_cons_of_mem _ h2, h3⟩
  | _, _, _, 0, .ot _ _ _, e => by simp at e
  | _, _, _, i + 1, .ot _ q s, e => by
    obtain ⟨l, xs, h1, h2, h3⟩ := Slots.getO (i := i) s (by simpa using e)
    exact ⟨l, xs, by simpa using h1, by rw [q]; exact List.mem_append_right _ h2, h3⟩
theorem Slots.getD {kvs : List (D × D)} : ∀ {σ : List (Option V)} {ρ : List SD} {L : List Addr} {i : Nat}, Slots pr wd K O H σ ρ L → ρ[i]? = some (.dic kvs) → ∃ l, σ[i]? = some (some (.ref l)) ∧ l ∈ L ∧ NDict pr wd K O H l kvs
  | _, _, _, _, .nil, e => by simp at e
  | _, _, _, 0, .un _, e => by simp at e
  | _, _, _, i + 1, .un s, e => by simpa using Slots.getD (i := i) s (by simpa using e)
  | _, _, _, 0, .val _ _, e => by simp at e
  | _, _, _, i + 1, .val _ s, e => by simpa using Slots.getD (i := i) s (by simpa using e)
  | _, _, _, 0, .own _ _ _, e => by simp at e
  | _, _, _, i + 1, .own _ _ s, e => by
    obtain ⟨l, h1, h2, h3⟩ := Slots.getD (i := i) s (by simpa using e)
    exact ⟨l, by simpa using h1, List.mem_cons_of_mem _ h2, h3⟩
  | _, _, _, 0, .dic h _, e => by simp at e; subst e; exact ⟨_, rfl, List.mem_cons_self, h⟩
  | _, _, _, 0, .dk h _, e => by simp at e
  | _, _, _, 0, .tw h _, e => by simp at e
  | _, _, _, i + 1, .dic _ s, e => by
    obtain ⟨l, h1, h2, h3⟩ := Slots.getD (i := i) s (by simpa using e)
    exact ⟨l, by simpa using h1, List.mem_cons_of_mem _ h2, h3⟩
  | _, _, _, i + 1, .dk _ s, e => by
    obtain ⟨l, h1, h2, h3⟩ := Slots.getD (i := i) s (by simpa using e)
    exact ⟨l, by simpa using h1, List.mem_cons_of_mem _ h2, h3⟩
  | _, _, _, i + 1, .tw _ s, e => by
    obtain ⟨l, h1, h2, h3⟩ := Slots.getD (i := i) s (by simpa using e)
    exact ⟨l, by simpa using h1, List.mem_cons_of_mem _ h2, h3⟩
  | _, _, _, 0, .ot _ _ _, e => by simp at e
  | _, _, _, i + 1, .ot _ q s, e => by
    obtain ⟨l, h1, h2, h3⟩ := Slots.getD (i := i) s (by simpa using e)
    exact ⟨l, by simpa using h1, by rw [q]; exact List.mem_append_right _ h2, h3⟩
/-- a slot forgotten -/
theorem Slots.drop : ∀ {σ : List (Option V)} {ρ : List SD} {L : List Addr} (i : Nat), Slots pr wd K O H σ ρ L → ∃ L', Slots pr wd K O H σ (ρ.set i .un) L' ∧ L'.Sublist L
  | _, _, _, _, .nil => ⟨[], .nil, List.Sublist.refl _⟩
  | _, _, _, 0, .un s => ⟨_, .un s, List.Sublist.refl _⟩
  | _, _, _, 0, .val _ s => ⟨_, .un s, List.Sublist.refl _⟩
  | _, _, _, 0, .own _ _ s => ⟨_, .un s, List.sublist_cons_self _ _⟩
  | _, _, _, i + 1, .un s => by
    obtain ⟨L', h1, h2⟩ := Slots.drop i s
    exact ⟨L', .un h1, h2⟩
  | _, _, _, i + 1, .val h s => by
    obtain ⟨L', h1, h2⟩ := Slots.drop i s
    exact ⟨L', .val h h1, h2⟩
  | _, _, _, i + 1, .own h r s => by
    obtain ⟨L', h1, h2⟩ := Slots.drop i s
    exact ⟨_ :: L', .own h r h1, h2.cons_cons _⟩
  | _, _, _, 0, .dic _ s => ⟨_, .un s, List.sublist_cons_self _ _⟩
  | _, _, _, 0, .dk _ s => ⟨_, .un s, List.sublist_cons_self _ _⟩
  | _, _, _, 0, .tw _ s => ⟨_, .un s, List.sublist_cons_self _ _⟩
  | _, _, _, i + 1, .dic h s => by
    obtain ⟨L', h1, h2⟩ := Slots.drop i s
    exact ⟨_ :: L', .dic h h1, h2.cons_cons _⟩
  | _, _, _, i + 1, .dk h s => by
    obtain ⟨L', h1, h2⟩ := Slots.drop i s
    exact ⟨_ :: L', .dk h h1, h2.cons_cons _⟩
  | _, _, _, i + 1, .tw h s => by
    obtain ⟨L', h1, h2⟩ := Slots.drop i s
    exact ⟨_ :: L', .tw h h1, h2.cons_cons _⟩
  | _, _, _, 0, .ot _ q s => ⟨_, .un s, by rw [q]; exact List.sublist_append_right _ _⟩
  | _, _, _, i + 1, .ot h q s => by
    obtain ⟨L', h1, h2⟩ := Slots.drop i s
    exact ⟨_, .ot h rfl h1, by rw [q]; exact List.Sublist.append_left h2 _⟩
theorem Slots.set {v : V} {d : D} (hv : Rp K (hid O H) v d) : ∀ {σ : List (Option V)} {ρ : List SD} {L : List Addr} (i : Nat), Slots pr wd K O H σ ρ L → ∃ L', Slots pr wd K O H (σ.set i (some v)) (ρ.set i (.val d)) L' ∧ L'.Sublist L
  | _, _, _, _, .nil => ⟨[], .nil, List.Sublist.refl _⟩
  | _, _, _, 0, .un s => ⟨_, .val hv s, List.Sublist.refl _⟩
  | _, _, _, 0, .val _ s => ⟨_, .val hv s, List.Sublist.refl _⟩
  | _, _, _, 0, .own _ _ s => ⟨_, .val hv s, List.sublist_cons_self _ _⟩
  | _, _, _, i + 1, .un s => by
    obtain ⟨L', h1, h2⟩ := Slots.set hv i s
    exact ⟨L', .un h1, h2⟩
  | _, _, _, i + 1, .val h s => by
    obtain ⟨L', h1, h2⟩ := Slots.set hv i s
    exact ⟨L', .val h h1, h2⟩
  | _, _, _, i + 1, .own h r s => by
    obtain ⟨L', h1, h2⟩ := Slots.set hv i s
    exact ⟨_ :: L', .own h r h1, h2.cons_cons _⟩
  | _, _, _, 0, .dic _ s => ⟨_, .val hv s, List.sublist_cons_self _ _⟩
  | _, _, _, 0, .dk _ s => ⟨_, .val hv s, List.sublist_cons_self _ _⟩
  | _, _, _, 0, .tw _ s => ⟨_, .val hv s, List.sublist_cons_self _ _⟩
  | _, _, _, i + 1, .dic h s => by
    obtain ⟨L', h1, h2⟩ := Slots.set hv i s
    exact ⟨_ :: L', .dic h h1, h2.cons_cons _⟩
  | _, _, _, i + 1, .dk h s => by
    obtain ⟨L', h1, h2⟩ := Slots.set hv i s
    exact ⟨_ :: L', .dk h h1, h2.cons_cons _⟩
  | _, _, _, i + 1, .tw h s => by
    obtain ⟨L', h1, h2⟩ := Slots.set hv i s
    exact ⟨_ :: L', .tw h h1, h2.cons_cons _⟩
  | _, _, _, 0, .ot _ q s => ⟨_, .val hv s, by rw [q]; exact List.sublist_append_right _ _⟩
  | _, _, _, i + 1, .ot h q s => by
    obtain ⟨L', h1, h2⟩ := Slots.set hv i s
    exact ⟨_, .ot h rfl h1, by rw [q]; exact List.Sublist.append_left h2 _⟩
theorem Slots.setO {l : Addr} {xs : List V} {ds : List D} (hl : H l = some (.lst xs)) (hx : RpAll K (hid O H) xs ds) (hn : l ∉ L) : ∀ {σ : List (Option V)} {ρ : List SD} {L : List Addr} (i : Nat), i < ρ.length → Slots pr wd K O H σ ρ L →
    ∃ L1 L2 L3, Slots pr wd K O H (σ.set i (some (.ref l))) (ρ.set i (.own ds)) (L1 ++ l :: L2) ∧ L = L1 ++ L3 ∧ L2.Sublist L3
  | _, _, _, _, h, .nil => by simp at h
  | _, _, L, 0, _, .un s => ⟨[], L, L, .own hl hx s, rfl, List.Sublist.refl _⟩
  | _, _, L, 0, _, .val _ s => ⟨[], L, L, .own hl hx s, rfl, List.Sublist.refl _⟩
  | _, _, _ :: L, 0, _, .own _ _ s => ⟨[], L, _, .own hl hx s, rfl, List.sublist_cons_self _ _⟩
  | _, _, _, i + 1, h, .un s => by
    obtain ⟨L1, L2, L3, h1, h2⟩ := Slots.setO hl hx hn i (by simpa using h) s
    exact ⟨L1, L2, L3, .un h1, h2⟩
  | _, _, _, i + 1, h, .val q s => by
    obtain ⟨L1, L2, L3, h1, h2⟩ := Slots.setO hl hx hn i (by simpa using h) s
    exact ⟨L1, L2, L3, .val q h1, h2⟩
  | _, _, _, i + 1, h, .own q r s => by
    obtain ⟨L1, L2, L3, h1, h2, h3⟩ := Slots.setO hl hx hn i (by simpa using h) s
    exact ⟨_ :: L1, L2, L3, .own q r h1, by rw [h2]; rfl, h3⟩
  | _, _, _ :: L, 0, _, .dic _ s => ⟨[], L, _, .own hl hx s, rfl, List.sublist_cons_self _ _⟩
  | _, _, _ :: L, 0, _, .dk _ s => ⟨[], L, _, .own hl hx s, rfl, List.sublist_cons_self _ _⟩
  | _, _, _ :: L, 0, _, .tw _ s => ⟨[], L, _, .own hl hx s, rfl, List.sublist_cons_self _ _⟩
  | _, _, _, i + 1, h, .dic q s => by
    obtain ⟨L1, L2, L3, h1, h2, h3⟩ := Slots.setO hl hx hn i (by simpa using h) s
    exact ⟨_ :: L1, L2, L3, .dic q h1, by rw [h2]; rfl, h3⟩
  | _, _, _, i + 1, h, .dk q s => by
    obtain ⟨L1, L2, L3, h1, h2, h3⟩ := Slots.setO hl hx hn i (by simpa using h) s
    exact ⟨_ :: L1, L2, L3, .dk q h1, by rw [h2]; rfl, h3⟩
  | _, _, _, i + 1, h, .tw q s => by
    obtain ⟨L1, L2, L3, h1, h2, h3⟩ := Slots.setO hl hx hn i (by simpa using h) s
    exact ⟨_ :: L1, L2, L3, .tw q h1, by rw [h2]; rfl, h3⟩
  | _, _, _, 0, _, .ot _ q s => ⟨[], _, _, .own hl hx s, rfl, by rw [q]; exact List.sublist_append_right _ _⟩
  | _, _, _, i + 1, h, .ot p q s => by
    obtain ⟨L1, L2, L3, h1, h2, h3⟩ := Slots.setO hl hx hn i (by simpa using h) s
    exact ⟨_, L2, L3, .ot p (List.append_assoc _ _ _) h1, by rw [q, h2, List.append_assoc], h3⟩
theorem Slots.setN {l : Addr} {kvs : List (D × D)} (hx : NDict pr wd K O H l kvs) (hn : l ∉ L) : ∀ {σ : List (Option V)} {ρ : List SD} {L : List Addr} (i : Nat), i < ρ.length → Slots pr wd K O H σ ρ L →
    ∃ L1 L2 L3, Slots pr wd K O H (σ.set i (some (.ref l))) (ρ.set i (.dic kvs)) (L1 ++ l :: L2) ∧ L = L1 ++ L3 ∧ L2.Sublist L3
  | _, _, _, _, h, .nil => by simp at h
  | _, _, L, 0, _, .un s => ⟨[], L, L, .dic hx s, rfl, List.Sublist.refl _⟩
  | _, _, L, 0, _, .val _ s => ⟨[], L, L, .dic hx s, rfl, List.Sublist.refl _⟩
  | _, _, _ :: L, 0, _, .own _ _ s => ⟨[], L, _, .dic hx s, rfl, List.sublist_cons_self _ _⟩
  | _, _, _ :: L, 0, _, .dic _ s => ⟨[], L, _, .dic hx s, rfl, List.sublist_cons_self _ _⟩
  | _, _, _ :: L, 0, _, .dk _ s => ⟨[], L, _, .dic hx s, rfl, List.sublist_cons_self _ _⟩
  | _, _, _ :: L, 0, _, .tw _ s => ⟨[], L, _, .dic hx s, rfl, List.sublist_cons_self _ _⟩
  | _, _, _, i + 1, h, .un s => by
    obtain ⟨L1, L2, L3, h1, h2⟩ := Slots.setN hx hn i (by simpa using h) s
    exact ⟨L1, L2, L3, .un h1, h2⟩
  | _, _, _, i + 1, h, .val q s => by
    obtain ⟨L1, L2, L3, h1, h2⟩ := Slots.setN hx hn i (by simpa using h) s
    exact ⟨L1, L2, L3, .val q h1, h2⟩
  | _, _, _, i + 1, h, .own q r s => by
    obtain ⟨L1, L2, L3, h1, h2, h3⟩ := Slots.setN hx hn i (by simpa using h) s
    exact ⟨_ :: L1, L2, L3, .own q r h1, by rw [h2]; rfl, h3⟩
  | _, _, _, i + 1, h, .dic q s => by
    obtain ⟨L1, L2, L3, h1, h2, h3⟩ := Slots.setN hx hn i (by simpa using h) s
    exact ⟨_ :: L1, L2, L3, .dic q h1, by rw [h2]; rfl, h3⟩
  | _, _, _, i + 1, h, .dk q s => by
    obtain ⟨L1, L2, L3, h1, h2, h3⟩ := Slots.setN hx hn i (by simpa using h) s
    exact ⟨_ :: L1, L2, L3, .dk q h1, by rw [h2]; rfl, h3⟩
  | _, _, _, i + 1, h, .tw q s => by
    obtain ⟨L1, L2, L3, h1, h2, h3⟩ := Slots.setN hx hn i (by simpa using h) s
    exact ⟨_ :: L1, L2, L3, .tw q h1, by rw [h2]; rfl, h3⟩
  | _, _, _, 0, _, .ot _ q s => ⟨[], _, _, .dic hx s, rfl, by rw [q]; exact List.sublist_append_right _ _⟩
  | _, _, _, i + 1, h, .ot p q s => by
    obtain ⟨L1, L2, L3, h1, h2, h3⟩ := Slots.setN hx hn i (by simpa using h) s
    exact ⟨_, L2, L3, .ot p (List.append_assoc _ _ _) h1, by rw [q, h2, List.append_assoc], h3⟩
end

theorem Slots.lists {pr : Program} {wd : World} {K : PySem.W.Frag} {O : List Addr} {H : Hp} {σ : List (Option V)} {ρ : List SD} {L : List Addr} (s : Slots pr wd K O H σ ρ L) : ∀ l ∈ L, ∃ o, H l = some o := by
  induction s with
  | nil => intro l h; cases h
  | un _ ih => exact ih
  | val _ _ ih => exact ih
  | own h _ _ ih =>
    intro l hl
    rcases List.mem_cons.mp hl with e | e
    · subst e; exact ⟨_, h⟩
    · exact ih l e
  | dic h _ ih =>
    intro l hl
    rcases List.mem_cons.mp hl with e | e
    · subst e; obtain ⟨xs, h1, _⟩ := h; exact ⟨_, h1⟩
    · exact ih l e
  | dk h _ ih =>
    intro l hl
    rcases List.mem_cons.mp hl with e | e
    · subst e; obtain ⟨xs, h1, _⟩ := h; exact ⟨_, h1⟩
    · exact ih l e
  | tw h _ ih =>
    intro l hl
    rcases List.mem_cons.mp hl with e | e
    · subst e; obtain ⟨xs, _, _, _, h1, _⟩ := h; exact ⟨_, h1⟩
    · exact ih l e
  | ot h q _ ih =>
    intro l hl
    rw [q] at hl
    rcases List.mem_append.mp hl with e | e
    · exact OT.ex _ h l e
    · exact ih l e
section
variable {c : Ctx} {P : Hp} {L : List Addr} {n n' : Nat} {H H' : Hp} {σ : List (Option V)} {ρ : List SD}
theorem mem_B {b : Addr} : b ∈ c.B ↔ ∃ q, c.bag = some (b, q) := by
  unfold Ctx.B
  cases c.bag with
  | none => simp
  | some x =>
    obtain ⟨x1, x2⟩ := x
    simp [eq_comm]
theorem Env.inO (E : Env c P L n H σ ρ) {b : Addr} (h : b ∈ c.B) : b ∈ c.O := by
  obtain ⟨q, e⟩ := mem_B.mp h
  exact (E.bO b q e).1
theorem Env.notB (E : Env c P L n H σ ρ) {l : Addr} (h : l ∈ L) : l ∉ c.B := fun q => (E.fresh l h).2 (E.inO q)
theorem Env.BLO (E : Env c P L n H σ ρ) : ∀ a, a ∈ c.B → a ∈ L ++ c.O := fun a h => List.mem_append_right _ (E.inO h)
theorem Env.sameLO (E : Env c P L n H σ ρ) (e : Same (hid c.B H) (hid c.B H')) : Same (hid (L ++ c.O) H) (hid (L ++ c.O) H') := same_hid_more E.BLO e
theorem Env.own (E : Env c P L n H σ ρ) (e : Same (hid c.B H) (hid c.B H')) : ∀ l ∈ L, H' l = H l := fun l hl => by
  obtain ⟨xs, h⟩ := E.lst l hl
  rw [h]
  exact (hid_some.mp (e l _ (hid_some.mpr ⟨E.notB hl, h⟩))).2
/-- an expression's step -/
theorem Env.step (E : Env c P L n H σ ρ) (e : Same (hid c.B H) (hid c.B H')) (j : c.J n' H') : Env c P L n' H' σ ρ where
  nd := E.nd
  fresh := E.fresh
  slots := by
    obtain ⟨Ls, s, sub⟩ := E.slots
    exact ⟨Ls, s.move (fun l hl => E.own e l (sub.subset hl)) (E.sameLO e), sub⟩
  lst := fun l hl => by
    rw [E.own e l hl]
    exact E.lst l hl
  bag := j
  base := E.base.trans e
  pers := E.pers.trans (E.sameLO e)
  bO := E.bO
  al := fun o ho => by
    by_cases hb : o ∈ c.B
    · obtain ⟨q, hq⟩ := mem_B.mp hb
      obtain ⟨xs, h⟩ := (j o q hq).lst
      rw [h]; exact fun q => by cases q
    · cases h : H o with
      | none => exact absurd h (E.al o ho)
      | some u =>
        rw [(hid_some.mp (e o u (hid_some.mpr ⟨hb, h⟩))).2]
        exact fun q => by cases q
/-- where all stands and new things may have come -/
theorem Env.same (E : Env c P L n H σ ρ) (e : Same H H') : Same (hid c.B H) (hid c.B H') ∧ c.J n H' :=
  ⟨same_hid_of e, fun b q hb => (E.bag b q hb).move (fun o h => e b o h) fun o h => e q o h⟩
theorem Env.new (E : Env c P L n H σ ρ) {p : Addr} (h : H p = none) : c.H0 p = none ∧ p ∉ c.O ∧ p ∉ L := by
  have h1 : p ∉ c.O := fun q => E.al p q h
  refine ⟨?_, h1, fun q => ?_⟩
  · cases e : c.H0 p with
    | none => rfl
    | some u =>
      have := (hid_some.mp (E.base p u (hid_some.mpr ⟨fun q => h1 (E.inO q), e⟩))).2
      rw [h] at this; cases this
  · obtain ⟨xs, e⟩ := E.lst p q
    rw [h] at e; cases e
theorem Env.pers' (E : Env c P L n H σ ρ) : Env c (hid (L ++ c.O) H) L n H σ ρ := { E with pers := Same.refl _ }
theorem Env.persOf {P' : Hp} (E : Env c P L n H σ ρ) (h : Same P' P) : Env c P' L n H σ ρ := { E with pers := h.trans E.pers }
/-- other slots over the same or a smaller set of owned lists -/
theorem Env.reslot {L' : List Addr} {σ' : List (Option V)} {ρ' : List SD} (E : Env c P L n H σ ρ) (s : Slots c.pr c.wd c.K (L ++ c.O) H σ' ρ' L') (h : L'.Sublist L) : Env c P L n H σ' ρ' :=
  { E with slots := ⟨L', s, h⟩ }
end
end L3
/-! L3b: the judgements over data, and their rules. -/
namespace L3
open PySem L2

abbrev Ph := Nat → D → Prop
abbrev ER := List (Option V)
def WE (c : Ctx) (te : TE) (ρ : List SD) (n : Nat) (Φ : Nat → D → Prop) : Prop :=
  ∀ P L σ H Q, Env c P L n H σ ρ → (∀ v d n' H', Same (hid c.B H) (hid c.B H') → c.J n' H' → Rp c.K (hid (L ++ c.O) H') v d → Φ n' d → Q v H') → te σ H Q
def WT (c : Ctx) (tt : TT) (ρ : List SD) (n : Nat) (Φ : Nat → Bool → Prop) : Prop :=
  ∀ P L σ H Q, Env c P L n H σ ρ → (∀ b n' H', Same (hid c.B H) (hid c.B H') → c.J n' H' → Φ n' b → Q b H') → tt σ H Q
def WA (c : Ctx) (ta : TA) (ρ : List SD) (n : Nat) (Φ : Nat → List D → Prop) : Prop :=
  ∀ P L σ H Q, Env c P L n H σ ρ → (∀ vs ds n' H', Same (hid c.B H) (hid c.B H') → c.J n' H' → RpAll c.K (hid (L ++ c.O) H') vs ds → Φ n' ds → Q vs H') → ta σ H Q
/-- a part of a slice -/
def WO (c : Ctx) (to : TO) (ρ : List SD) (n : Nat) (Φ : Nat → Option Int → Prop) : Prop :=
  ∀ P L σ H Q, Env c P L n H σ ρ → (∀ o n' H', Same (hid c.B H) (hid c.B H') → c.J n' H' → Φ n' o → Q o H') → to σ H Q
/-- a new list -/
def WF (c : Ctx) (te : TE) (ρ : List SD) (n : Nat) (Φ : Nat → List D → Prop) : Prop :=
  ∀ P L σ H Q, Env c P L n H σ ρ → (∀ p xs ds n' H', Same (hid c.B H) (hid c.B H') → H p = none → H' p = some (.lst xs) → RpAll c.K (hid (p :: (L ++ c.O)) H') xs ds → c.J n' H' → Φ n' ds → Q (.ref p) H') → te σ H Q
structure Out where
  nx : Nat → List SD → Prop
  rt : Nat → D → Prop
  bk : Nat → List SD → Prop := fun _ _ => False
  ct : Nat → List SD → Prop := fun _ _ => False
structure Acc (c : Ctx) (P : Hp) (Ψ : Out) (Dn : Ends) : Prop where
  nx : ∀ L n H σ ρ, Env c P L n H σ ρ → Ψ.nx n ρ → Dn.nx σ H
  rt : ∀ v d n H, Same (hid c.B c.H0) (hid c.B H) → c.J n H → Rp c.K (hid c.O H) v d → Ψ.rt n d → Dn.rt v H
  bk : ∀ L n H σ ρ, Env c P L n H σ ρ → Ψ.bk n ρ → Dn.bk σ H
  ct : ∀ L n H σ ρ, Env c P L n H σ ρ → Ψ.ct n ρ → Dn.ct σ H
def WS (c : Ctx) (ts : TS) (ρ : List SD) (n : Nat) (Ψ : Out) : Prop :=
  ∀ P L σ H Dn, Env c P L n H σ ρ → Acc c P Ψ Dn → ts Dn σ H
def WG (c : Ctx) (R : ER → ER → Prop) (g : TG) (d : D) (ρ : List SD) (n : Nat) (Φ : List SD → Prop) : Prop :=
  ∀ P L σ H v Q, Env c P L n H σ ρ → Rp c.K (hid (L ++ c.O) H) v d → (∀ σ' ρ', Env c P L n H σ' ρ' → R σ σ' → Φ ρ' → Q σ' H) → g v σ H Q
def WGs (c : Ctx) (R : ER → ER → Prop) (g : TGs) (ds : List D) (ρ : List SD) (n : Nat) (Φ : List SD → Prop) : Prop :=
  ∀ P L σ H vs Q, Env c P L n H σ ρ → RpAll c.K (hid (L ++ c.O) H) vs ds → (∀ σ' ρ', Env c P L n H σ' ρ' → R σ σ' → Φ ρ' → Q σ' H) → g vs σ H Q
/-- a walk over these data -/
structure ItOk (c : Ctx) (J : It) (ds : List D) (P : Hp) : Prop where
  go : ∀ L n H σ ρ, Env c P L n H σ ρ → ∀ i d, ds[i]? = some d → J.go i H ∧ ∀ x H', J.yld i H x H' → Same H H' ∧ Rp c.K (hid (L ++ c.O) H') x d
  stop : ∀ L n H σ ρ, Env c P L n H σ ρ → ∀ i, ds.length ≤ i → J.stop i H
def WI (c : Ctx) (wi : TI) (ρ : List SD) (n : Nat) (Φ : Nat → List D → Prop) : Prop :=
  ∀ P L σ H R, Env c P L n H σ ρ → (∀ J ds n' H', Same (hid c.B H) (hid c.B H') → c.J n' H' → ItOk c J ds (hid (L ++ c.O) H') → Φ n' ds → R J H') → wi σ H R

section
variable {c : Ctx} {ρ : List SD} {n : Nat} {ta tb te : TE} {t u : TT} {as : TA} {Φ : Nat → D → Prop} {Ψ : Out} {ts us : TS}

/-! ### steps -/
theorem Env.up {P : Hp} {L : List Addr} {n n' : Nat} {H H' H2 : Hp} {σ : List (Option V)} {ρ : List SD} (E : Env c P L n H σ ρ) (e : Same (hid c.B H) (hid c.B H')) {v : V} {d : D} (h : Rp c.K (hid (L ++ c.O) H) v d) : Rp c.K (hid (L ++ c.O) H') v d := h.mono (E.sameLO e)
theorem Env.ups {P : Hp} {L : List Addr} {n n' : Nat} {H H' H2 : Hp} {σ : List (Option V)} {ρ : List SD} (E : Env c P L n H σ ρ) (e : Same (hid c.B H) (hid c.B H')) {v : List V} {d : List D} (h : RpAll c.K (hid (L ++ c.O) H) v d) : RpAll c.K (hid (L ++ c.O) H') v d := h.mono (E.sameLO e)

theorem Env.noO {P : Hp} {L : List Addr} {n : Nat} {H : Hp} {σ : List (Option V)} (E : Env c P L n H σ ρ) : ∀ p, H p = none → p ∉ L ++ c.O := fun p hp q => by
  have w := E.new hp
  rcases List.mem_append.mp q with q | q
  · exact w.2.2 q
  · exact w.2.1 q
/-! ### expressions -/
theorem we_var {i : Nat} {d : D} (h : ρ[i]? = some (.val d)) (k : Φ n d) : WE c (tVar i) ρ n Φ := fun P L σ H Q E q => by
  obtain ⟨Ls, sl, _⟩ := E.slots
  obtain ⟨v, h1, h2⟩ := sl.get h
  exact ⟨v, h1, q v d n H (Same.refl _) E.bag h2 k⟩
theorem we_int {i : Int} (k : Φ n (.int i)) : WE c (tC (.int i)) ρ n Φ := fun P L σ H Q E q => q _ _ n H (Same.refl _) E.bag (.int i) k
theorem we_str {x : Str} (k : Φ n (.str x)) : WE c (tC (.str x)) ρ n Φ := fun P L σ H Q E q => q _ _ n H (Same.refl _) E.bag (.str x) k
theorem we_bl {b : Bool} (k : Φ n (.bl b)) : WE c (tC (.bl b)) ρ n Φ := fun P L σ H Q E q => q _ _ n H (Same.refl _) E.bag (.bl b) k
theorem we_non (k : Φ n .non) : WE c (tC .non) ρ n Φ := fun P L σ H Q E q => q _ _ n H (Same.refl _) E.bag .non k
/-- two expressions in a row, then what is asked of their values -/
def R2D (K : PySem.W.Frag) (r : R2) (d e : D) (Φ : D → Prop) : Prop := ∀ (O : List Addr) (H : Hp) (x y : V) (Q : VK), Rp K (hid O H) x d → Rp K (hid O H) y e → (∀ p, H p = none → p ∉ O) → (∀ v f H', Same H H' → Rp K (hid O H') v f → Φ f → Q v H') → r x y H Q
theorem we_op {r : R2} (h : WE c ta ρ n fun n1 d => WE c tb ρ n1 fun n2 e => R2D c.K r d e (Φ n2)) : WE c (tOp r ta tb) ρ n Φ := fun P L σ H Q E q => by
  refine h P L σ H _ E fun x d n1 H1 s1 j1 r1 h1 => ?_
  refine h1 P L σ H1 _ (E.step s1 j1) fun y e n2 H2 s2 j2 r2 h2 => ?_
  have E2 := (E.step s1 j1).step s2 j2
  refine h2 (L ++ c.O) H2 x y Q ((E.step s1 j1).up (n' := 0) (H2 := H) s2 r1) r2 E2.noO fun v f H' s r k => ?_
  have z := E2.same s
  exact q v f n2 H' ((s1.trans s2).trans z.1) z.2 r k
theorem we_un {r : V → Hp → VK → Prop} (h : WE c ta ρ n fun n1 d => ∀ (O : List Addr) (H : Hp) (x : V) (Q : VK), Rp c.K (hid O H) x d → (∀ p, H p = none → p ∉ O) → (∀ v f H', Same H H' → Rp c.K (hid O H') v f → Φ n1 f → Q v H') → r x H Q) : WE c (tUn r ta) ρ n Φ := fun P L σ H Q E q => by
  refine h P L σ H _ E fun x d n1 H1 s1 j1 r1 h1 => ?_
  refine h1 (L ++ c.O) H1 x Q r1 (E.step s1 j1).noO fun v f H' s r k => ?_
  have z := (E.step s1 j1).same s
  exact q v f n1 H' (s1.trans z.1) z.2 r k
/-- an int operation -/
theorem r2_int {K : PySem.W.Frag} {C : Int → Int → Prop} {g : Int → Int → V} {h : Int → Int → D} (hg : ∀ (H : Hp) i j, Rp K H (g i j) (h i j)) {i j : Int} {Φ : D → Prop} (hc : C i j) (k : Φ (h i j)) : R2D K (rI C g) (.int i) (.int j) Φ := fun O H x y Q rx ry _ q => by
  cases rx
  cases ry
  exact ⟨i, j, rfl, rfl, hc, q _ _ H (Same.refl _) (hg _ i j) k⟩
theorem r2_int0 {K : PySem.W.Frag} {g : Int → Int → V} {h : Int → Int → D} (hg : ∀ (H : Hp) i j, Rp K H (g i j) (h i j)) {i j : Int} {Φ : D → Prop} (k : Φ (h i j)) : R2D K (rI0 g) (.int i) (.int j) Φ := fun O H x y Q rx ry _ q => by
  cases rx
  cases ry
  exact ⟨i, j, rfl, rfl, q _ _ H (Same.refl _) (hg _ i j) k⟩
theorem r2_eq {K : PySem.W.Frag} {d e : D} {b : Bool} {Φ : D → Prop} (hs : ∀ (H : Hp) x y, Rp K H x d → Rp K H y e → scal x y = true ∧ decide (x = y) = b) (k : Φ (.bl b)) : R2D K rEq d e Φ := fun O H x y Q rx ry _ q => by
  obtain ⟨h1, h2⟩ := hs _ x y rx ry
  exact ⟨h1, by rw [h2]; exact q _ _ H (Same.refl _) (.bl b) k⟩
theorem r2_ne {K : PySem.W.Frag} {d e : D} {b : Bool} {Φ : D → Prop} (hs : ∀ (H : Hp) x y, Rp K H x d → Rp K H y e → scal x y = true ∧ (!decide (x = y)) = b) (k : Φ (.bl b)) : R2D K rNe d e Φ := fun O H x y Q rx ry _ q => by
  obtain ⟨h1, h2⟩ := hs _ x y rx ry
  exact ⟨h1, by rw [h2]; exact q _ _ H (Same.refl _) (.bl b) k⟩
/-- a value as a test -/
theorem wt_B {Φ : Nat → Bool → Prop} (h : WE c te ρ n fun n1 d => ∃ b, d = .bl b ∧ Φ n1 b) : WT c (tB te) ρ n Φ := fun P L σ H Q E q => by
  refine h P L σ H _ E fun x d n1 H1 s1 j1 r1 ⟨b, e, k⟩ => ?_
  subst e
  cases r1
  exact ⟨b, rfl, q b n1 H1 s1 j1 k⟩
theorem wt_test {Φ : Nat → Bool → Prop} (h : WE c te ρ n fun n1 d => ∃ b, d = .bl b ∧ Φ n1 b) : WT c (tTest te) ρ n Φ := wt_B h
/-- truth -/
def tru : D → Option Bool
  | .non => some false
  | .bl b => some b
  | .int i => some (i != 0)
  | .str x => if x.length ≤ sizeLine then some ((x.length : Int) != 0) else none
  | .lst xs => some (!xs.isEmpty)
  | .tup xs => some (!xs.isEmpty)
  | _ => none
theorem tru_V {K : PySem.W.Frag} {H : Hp} {O : List Addr} {x : V} {d : D} {b : Bool} (r : Rp K (hid O H) x d) (h : tru d = some b) : TruV K x H b := by
  cases r with
  | non => exact (Option.some.inj h).symm
  | bl b => exact (Option.some.inj h).symm
  | int i => exact (Option.some.inj h).symm
  | str x =>
    by_cases hx : x.length ≤ sizeLine
    · have h' : (if x.length ≤ sizeLine then some ((x.length : Int) != 0) else none) = some b := h
      rw [if_pos hx] at h'
      exact ⟨hx, (Option.some.inj h').symm⟩
    · have h' : (if x.length ≤ sizeLine then some ((x.length : Int) != 0) else none) = some b := h
      rw [if_neg hx] at h'
      cases h'
  | lst hs ha =>
    refine .inl ⟨_, .inl (same_rd same_hid hs), ?_⟩
    rw [← Option.some.inj h]
    cases ha <;> rfl
  | tup hs ha =>
    refine .inr (.inl ⟨_, same_t same_hid hs, ?_⟩)
    rw [← Option.some.inj h]
    cases ha <;> rfl
  | obj h1 _ => cases h
  | adr a => cases h
  | ty n => cases h
  | er _ _ _ => cases h
  | dct _ _ => cases h
  | dcn _ _ _ => cases h
theorem wt_tru {Φ : Nat → Bool → Prop} (h : WE c te ρ n fun n1 d => ∃ b, tru d = some b ∧ Φ n1 b) : WT c (fun σ H Q => te σ H fun x H' => ∃ k, TruV c.K x H' k ∧ Q k H') ρ n Φ := fun P L σ H Q E q => by
  refine h P L σ H _ E fun x d n1 H1 s1 j1 r1 ⟨b, e, k⟩ => ?_
  exact ⟨b, tru_V r1 e, q b n1 H1 s1 j1 k⟩
theorem wt_and {Φ : Nat → Bool → Prop} (h : WT c t ρ n fun n1 b => if b = true then WT c u ρ n1 Φ else Φ n1 false) : WT c (tAnd t u) ρ n Φ := fun P L σ H Q E q => by
  refine h P L σ H _ E fun b n1 H1 s1 j1 k => ?_
  cases b with
  | true =>
    rw [if_pos rfl] at k
    show u σ H1 Q
    exact k P L σ H1 Q (E.step s1 j1) fun b n2 H2 s2 j2 k2 => q b n2 H2 (s1.trans s2) j2 k2
  | false =>
    rw [if_neg Bool.false_ne_true] at k
    exact q false n1 H1 s1 j1 k
theorem wt_or {Φ : Nat → Bool → Prop} (h : WT c t ρ n fun n1 b => if b = true then Φ n1 true else WT c u ρ n1 Φ) : WT c (tOr t u) ρ n Φ := fun P L σ H Q E q => by
  refine h P L σ H _ E fun b n1 H1 s1 j1 k => ?_
  cases b with
  | true =>
    rw [if_pos rfl] at k
    exact q true n1 H1 s1 j1 k
  | false =>
    rw [if_neg Bool.false_ne_true] at k
    show u σ H1 Q
    exact k P L σ H1 Q (E.step s1 j1) fun b n2 H2 s2 j2 k2 => q b n2 H2 (s1.trans s2) j2 k2
theorem wt_not {Φ : Nat → Bool → Prop} (h : WT c t ρ n fun n1 b => Φ n1 (!b)) : WT c (tNot t) ρ n Φ := fun P L σ H Q E q => h P L σ H _ E fun b n1 H1 s1 j1 k => q (!b) n1 H1 s1 j1 k
theorem wt_yes {Φ : Nat → Bool → Prop} (k : Φ n true) : WT c tYes ρ n Φ := fun P L σ H Q E q => q true n H (Same.refl _) E.bag k
theorem we_not (h : WE c ta ρ n fun n1 d => ∃ b, d = .bl b ∧ Φ n1 (.bl (!b))) : WE c (tNotV ta) ρ n Φ := fun P L σ H Q E q => by
  refine h P L σ H _ E fun x d n1 H1 s1 j1 r1 ⟨b, e, k⟩ => ?_
  subst e
  cases r1
  exact ⟨b, rfl, q _ _ n1 H1 s1 j1 (.bl _) k⟩
theorem we_and (h : WE c ta ρ n fun n1 d => ∃ b, d = .bl b ∧ if b = true then WE c tb ρ n1 Φ else Φ n1 (.bl false)) : WE c (tAndV ta tb) ρ n Φ := fun P L σ H Q E q => by
  refine h P L σ H _ E fun x d n1 H1 s1 j1 r1 ⟨b, e, k⟩ => ?_
  subst e
  cases r1
  refine ⟨b, rfl, ?_⟩
  cases b with
  | true =>
    rw [if_pos rfl] at k ⊢
    exact k P L σ H1 Q (E.step s1 j1) fun v d n2 H2 s2 j2 r2 k2 => q v d n2 H2 (s1.trans s2) j2 r2 k2
  | false =>
    rw [if_neg Bool.false_ne_true] at k ⊢
    exact q _ _ n1 H1 s1 j1 (.bl _) k
theorem we_or (h : WE c ta ρ n fun n1 d => ∃ b, d = .bl b ∧ if b = true then Φ n1 (.bl true) else WE c tb ρ n1 Φ) : WE c (tOrV ta tb) ρ n Φ := fun P L σ H Q E q => by
  refine h P L σ H _ E fun x d n1 H1 s1 j1 r1 ⟨b, e, k⟩ => ?_
  subst e
  cases r1
  refine ⟨b, rfl, ?_⟩
  cases b with
  | true =>
    rw [if_pos rfl] at k ⊢
    exact q _ _ n1 H1 s1 j1 (.bl _) k
  | false =>
    rw [if_neg Bool.false_ne_true] at k ⊢
    exact k P L σ H1 Q (E.step s1 j1) fun v d n2 H2 s2 j2 r2 k2 => q v d n2 H2 (s1.trans s2) j2 r2 k2
theorem we_if (h : WT c t ρ n fun n1 b => if b = true then WE c ta ρ n1 Φ else WE c tb ρ n1 Φ) : WE c (tIf t ta tb) ρ n Φ := fun P L σ H Q E q => by
  refine h P L σ H _ E fun b n1 H1 s1 j1 k => ?_
  cases b with
  | true =>
    rw [if_pos rfl] at k ⊢
    exact k P L σ H1 Q (E.step s1 j1) fun v d n2 H2 s2 j2 r2 k2 => q v d n2 H2 (s1.trans s2) j2 r2 k2
  | false =>
    rw [if_neg Bool.false_ne_true] at k ⊢
    exact k P L σ H1 Q (E.step s1 j1) fun v d n2 H2 s2 j2 r2 k2 => q v d n2 H2 (s1.trans s2) j2 r2 k2
/-- is None -/
def isNon : D → Bool
  | .non => true
  | _ => false
theorem isNon_V {K : PySem.W.Frag} {H : Hp} {x : V} {d : D} (r : Rp K H x d) : decide (x = .non) = isNon d := by
  cases r <;> first | rfl | exact decide_eq_false (fun e => by cases e)
theorem we_isN (h : WE c ta ρ n fun n1 d => Φ n1 (.bl (isNon d))) : WE c (tIsN ta) ρ n Φ := fun P L σ H Q E q => by
  refine h P L σ H _ E fun x d n1 H1 s1 j1 r1 k => ?_
  rw [isNon_V r1]
  exact q _ _ n1 H1 s1 j1 (.bl _) k
theorem we_notN (h : WE c ta ρ n fun n1 d => Φ n1 (.bl (!isNon d))) : WE c (tNotN ta) ρ n Φ := fun P L σ H Q E q => by
  refine h P L σ H _ E fun x d n1 H1 s1 j1 r1 k => ?_
  rw [isNon_V r1]
  exact q _ _ n1 H1 s1 j1 (.bl _) k

/-! ### arguments, displays -/
theorem wa_nil {Φ : Nat → List D → Prop} (k : Φ n []) : WA c tNil ρ n Φ := fun P L σ H Q E q => q [] [] n H (Same.refl _) E.bag .nil k
theorem wa_cons {Φ : Nat → List D → Prop} (h : WE c ta ρ n fun n1 d => WA c as ρ n1 fun n2 ds => Φ n2 (d :: ds)) : WA c (tCons ta as) ρ n Φ := fun P L σ H Q E q => by
  refine h P L σ H _ E fun x d n1 H1 s1 j1 r1 h1 => ?_
  have E1 := E.step s1 j1
  refine h1 P L σ H1 _ E1 fun vs ds n2 H2 s2 j2 r2 k => ?_
  exact q _ _ n2 H2 (s1.trans s2) j2 (.cons (E1.up (n' := 0) (H2 := H) s2 r1) r2) k
theorem Env.newT {P : Hp} {L : List Addr} {n : Nat} {H : Hp} {σ : List (Option V)} {p : Addr} {o : HO} (E : Env c P L n H σ ρ) (hp : H p = none) : Same (hid c.B H) (hid c.B (upd H p o)) ∧ c.J n (upd H p o) ∧ p ∉ L ++ c.O := by
  have z := E.same (same_upd_new (o := o) hp)
  have w := E.new hp
  exact ⟨z.1, z.2, fun q => by rcases List.mem_append.mp q with q | q; exact w.2.2 q; exact w.2.1 q⟩
theorem rp_upd {K : PySem.W.Frag} {O : List Addr} {H : Hp} {p : Addr} {o : HO} (hp : H p = none) : Same (hid O H) (hid O (upd H p o)) := same_hid_of (same_upd_new hp)
theorem hid_at {O : List Addr} {H : Hp} {p : Addr} {o : HO} (hp : p ∉ O) : hid O (upd H p o) p = some o := by rw [hid_out hp, upd_same]
theorem we_tup (h : WA c as ρ n fun n1 ds => ds.length ≤ sizeLine ∧ Φ n1 (.tup ds)) : WE c (tTup as) ρ n Φ := fun P L σ H Q E q => by
  refine h P L σ H _ E fun vs ds n1 H1 s1 j1 r1 ⟨hz, k⟩ => ?_
  refine ⟨by rw [r1.length]; exact hz, fun p hp => ?_⟩
  have z := (E.step s1 j1).newT (o := .tup vs) hp
  exact q _ _ n1 _ (s1.trans z.1) z.2.1 (.tup (.inl (.inl (hid_at z.2.2))) (r1.mono (rp_upd (K := c.K) hp))) k
theorem wf_lst {Φ : Nat → List D → Prop} (h : WA c as ρ n fun n1 ds => ds.length ≤ sizeLine ∧ Φ n1 ds) : WF c (tLst as) ρ n Φ := fun P L σ H Q E q => by
  refine h P L σ H _ E fun vs ds n1 H1 s1 j1 r1 ⟨hz, k⟩ => ?_
  refine ⟨by rw [r1.length]; exact hz, fun p hp => ?_⟩
  have E1 := E.step s1 j1
  refine q p vs ds n1 _ (s1.trans (E1.newT hp).1) ?_ upd_same (by rw [hid_new_in hp]; exact r1) (E1.newT hp).2.1 k
  cases e : H p with
  | none => rfl
  | some o =>
    by_cases hb : p ∈ c.B
    · exact absurd hp (E1.al p (E.inO hb))
    · rw [(hid_some.mp (s1 p o (hid_some.mpr ⟨hb, e⟩))).2] at hp
      cases hp
/-- a new list as a value -/
theorem wf_we (h : WF c te ρ n fun n1 ds => Φ n1 (.lst ds)) : WE c te ρ n Φ := fun P L σ H Q E q => by
  refine h P L σ H _ E fun p xs ds n1 H1 s1 hp h1 r1 j1 k => ?_
  have w := E.new hp
  have nin : p ∉ L ++ c.O := fun q => by rcases List.mem_append.mp q with q | q; exact w.2.2 q; exact w.2.1 q
  have sub : Same (hid (p :: (L ++ c.O)) H1) (hid (L ++ c.O) H1) := same_hid_sub fun a ha => List.mem_cons_of_mem _ ha
  exact q _ _ n1 H1 s1 j1 (.lst (.inl (by rw [hid_out nin]; exact h1)) (r1.mono sub)) k
theorem we_lst (h : WA c as ρ n fun n1 ds => ds.length ≤ sizeLine ∧ Φ n1 (.lst ds)) : WE c (tLst as) ρ n Φ := wf_we (wf_lst h)

/-! ### calls -/
/-- what a call of values asks, over data -/
def RCD (K : PySem.W.Frag) (r : List V → Hp → VK → Prop) (ds : List D) (Φ : D → Prop) : Prop := ∀ (O : List Addr) (H : Hp) (xs : List V) (Q : VK), RpAll K (hid O H) xs ds → (∀ p, H p = none → p ∉ O) → (∀ v f H', Same H H' → Rp K (hid O H') v f → Φ f → Q v H') → r xs H Q
theorem we_cb {r : List V → Hp → VK → Prop} (h : WA c as ρ n fun n1 ds => RCD c.K r ds (Φ n1)) : WE c (tCB r as) ρ n Φ := fun P L σ H Q E q => by
  refine h P L σ H _ E fun vs ds n1 H1 s1 j1 r1 k => ?_
  have E1 := E.step s1 j1
  refine k (L ++ c.O) H1 vs Q r1 E1.noO fun v f H' s r k => ?_
  have z := E1.same s
  exact q v f n1 H' (s1.trans z.1) z.2 r k
/-- what a def promises, over data: S of the bag, the turns, the arguments, what is wanted -/
abbrev Spec := Option (Addr × Addr) → Nat → List D → (Nat → D → Prop) → Prop
def spD (K : PySem.W.Frag) (S : Spec) : Sp := fun vs H Q _ => ∃ (O : List Addr) (bag : Option (Addr × Addr)) (n : Nat) (ds : List D) (Φ : Nat → D → Prop),
  (∀ b q, bag = some (b, q) → BagOk b q n H ∧ b ∈ O ∧ q ∈ O ∧ q ≠ b) ∧ (∀ o ∈ O, H o ≠ none) ∧ RpAll K (hid O H) vs ds ∧ S bag n ds Φ ∧
  ∀ v d n' H', Same (hid (bag.map (·.1)).toList H) (hid (bag.map (·.1)).toList H') → (∀ b q, bag = some (b, q) → BagOk b q n' H') → Rp K (hid O H') v d → Φ n' d → Q v H'
theorem Env.alLO {P : Hp} {L : List Addr} {n : Nat} {H : Hp} {σ : List (Option V)} (E : Env c P L n H σ ρ) : ∀ o ∈ L ++ c.O, H o ≠ none := fun o ho => by
  rcases List.mem_append.mp ho with q | q
  · obtain ⟨xs, h⟩ := E.lst o q
    rw [h]; exact fun q => by cases q
  · exact E.al o q
/-- the defaults' data -/
theorem we_call {S : Spec} {dvs : List V} {dds : List D} {XE : XK} (hd : ∀ H, RpAll c.K H dvs dds) (h : WA c as ρ n fun n1 ds => S c.bag n1 (ds ++ dds) Φ) : WE c (tCall (spD c.K S) dvs XE as) ρ n Φ := fun P L σ H Q E q => by
  refine h P L σ H _ E fun vs ds n1 H1 s1 j1 r1 k => ?_
  have E1 := E.step s1 j1
  refine ⟨L ++ c.O, c.bag, n1, ds ++ dds, Φ, fun b q hb => ⟨j1 b q hb, List.mem_append_right _ (E.bO b q hb).1, List.mem_append_right _ (E.bO b q hb).2.1, (E.bO b q hb).2.2⟩, E1.alLO, r1.append (hd _), k, fun v d n2 H2 s2 j2 r2 k2 => ?_⟩
  exact q v d n2 H2 (s1.trans s2) j2 r2 k2
theorem we_call0 {S : Spec} {XE : XK} (h : WA c as ρ n fun n1 ds => S c.bag n1 ds Φ) : WE c (tCall (spD c.K S) [] XE as) ρ n Φ := we_call (dds := []) (fun _ => .nil) fun P L σ H Q E q => h P L σ H Q E fun vs ds n1 H1 s1 j1 r1 k => q vs ds n1 H1 s1 j1 r1 (by show S c.bag n1 (ds ++ []) Φ; rw [List.append_nil]; exact k)

/-! ### statements -/
theorem ws_seq (h : WS c ts ρ n { Ψ with nx := fun n1 ρ1 => WS c us ρ1 n1 Ψ }) : WS c (tSeq ts us) ρ n Ψ := fun P L σ H Dn E A =>
  h P L σ H _ E { nx := fun L' n1 H1 σ1 ρ1 E1 k => k P L' σ1 H1 Dn E1 A, rt := A.rt, bk := A.bk, ct := A.ct }
theorem ws_next (k : Ψ.nx n ρ) : WS c tNext ρ n Ψ := fun P L σ H Dn E A => A.nx L n H σ ρ E k
theorem ws_brk (k : Ψ.bk n ρ) : WS c tBreak ρ n Ψ := fun P L σ H Dn E A => A.bk L n H σ ρ E k
theorem ws_cont (k : Ψ.ct n ρ) : WS c tCont ρ n Ψ := fun P L σ H Dn E A => A.ct L n H σ ρ E k
theorem Env.set {P : Hp} {L : List Addr} {n : Nat} {H : Hp} {σ : List (Option V)} (E : Env c P L n H σ ρ) {v : V} {d : D} (i : Nat) (h : Rp c.K (hid (L ++ c.O) H) v d) : Env c P L n H (σ.set i (some v)) (ρ.set i (.val d)) := by
  obtain ⟨Ls, sl, sb⟩ := E.slots
  obtain ⟨L', s, sub⟩ := sl.set h i
  exact E.reslot s (sub.trans sb)
theorem ws_set {i : Nat} (h : WE c te ρ n fun n1 d => Ψ.nx n1 (ρ.set i (.val d))) : WS c (tAsg te (gName i)) ρ n Ψ := fun P L σ H Dn E A => by
  refine h P L σ H _ E fun v d n1 H1 s1 j1 r1 k => ?_
  exact A.nx L n1 H1 _ _ ((E.step s1 j1).set i r1) k
theorem ws_asg {g : TG} (h : WE c te ρ n fun n1 d => WG c (fun _ _ => True) g d ρ n1 fun ρ1 => Ψ.nx n1 ρ1) : WS c (tAsg te g) ρ n Ψ := fun P L σ H Dn E A => by
  refine h P L σ H _ E fun v d n1 H1 s1 j1 r1 k => ?_
  exact k P L σ H1 v _ (E.step s1 j1) r1 fun σ' ρ' E' _ k => A.nx L n1 H1 σ' ρ' E' k
theorem ins_sub {α : Type} {p : α} : ∀ {L1 L2 L : List α}, (L1 ++ L2).Sublist L → ∃ Lp : List α, (L1 ++ p :: L2).Sublist Lp ∧ Lp.Perm (p :: L)
  | [], L2, L, h => ⟨p :: L, h.cons_cons p, List.Perm.refl _⟩
  | a :: L1, L2, L, h => by
    generalize e : a :: L1 ++ L2 = M at h
    induction h with
    | slnil => cases e
    | @cons l1 l2 b s ih =>
      obtain ⟨Lp, h1, h2⟩ := ih e
      exact ⟨b :: Lp, h1.cons b, (h2.cons b).trans (List.Perm.swap p b l2)⟩
    | @cons_cons l1 l2 b s ih =>
      have e' : a = b ∧ L1 ++ L2 = l1 := by simpa using e
      obtain ⟨e1, e2⟩ := e'
      subst e1; subst e2
      obtain ⟨Lp, h1, h2⟩ := ins_sub s
      exact ⟨a :: Lp, h1.cons_cons a, (h2.cons a).trans (List.Perm.swap p a l2)⟩
/-- a new list that is to be changed -/
theorem ws_own {i : Nat} (hi : i < ρ.length) (h : WF c te ρ n fun n1 ds => Ψ.nx n1 (ρ.set i (.own ds))) : WS c (tAsg te (gName i)) ρ n Ψ := fun P L σ H Dn E A => by
  refine h P L σ H _ E fun p xs ds n1 H1 s1 hp h1 r1 j1 k => ?_
  have w := E.new hp
  have nin : p ∉ L ++ c.O := E.noO p hp
  have E1 := E.step s1 j1
  have hs : Same (hid (L ++ c.O) H) (hid (p :: (L ++ c.O)) H1) := fun a o q => by
    obtain ⟨q1, q2⟩ := hid_some.mp q
    have q3 := (hid_some.mp (E.sameLO s1 a o q)).2
    refine hid_some.mpr ⟨fun z => ?_, q3⟩
    rcases List.mem_cons.mp z with z | z
    · subst z; rw [hp] at q2; cases q2
    · exact q1 z
  obtain ⟨Ls, sl0, sb⟩ := E.slots
  have sl : Slots c.pr c.wd c.K (p :: (L ++ c.O)) H1 σ ρ Ls := sl0.move (fun l hl => E.own s1 l (sb.subset hl)) hs
  obtain ⟨L1, L2, L3, sl2, eL, sub⟩ := Slots.setO h1 r1 (fun q => w.2.2 (sb.subset q)) i hi sl
  have e0 : p :: (L ++ c.O) = (p :: L) ++ c.O := rfl
  -- the slots' lists within p :: L: by a permutation's place
  have mv : ∃ Lp : List Addr, (L1 ++ p :: L2).Sublist Lp ∧ Lp.Perm (p :: L) := by
    rw [eL] at sb
    have h5 : (L1 ++ L2).Sublist L := (List.Sublist.append_left sub L1).trans sb
    exact ins_sub h5
  obtain ⟨Lp, sLp, pLp⟩ := mv
  have mem : ∀ a, a ∈ Lp ++ c.O ↔ a ∈ p :: (L ++ c.O) := fun a => by
    rw [e0, List.mem_append, List.mem_append, pLp.mem_iff]
  refine A.nx Lp n1 H1 _ _ ?_ k
  exact { nd := pLp.nodup_iff.mpr (List.nodup_cons.mpr ⟨w.2.2, E.nd⟩),
          fresh := fun l hl => by
            rcases List.mem_cons.mp (pLp.mem_iff.mp hl) with q | q
            · subst q; exact ⟨w.1, w.2.1⟩
            · exact E.fresh l q,
          slots := ⟨_, sl2.move (fun _ _ => rfl) (same_hid_sub fun a ha => (mem a).mp ha), sLp⟩,
          lst := fun l hl => by
            rcases List.mem_cons.mp (pLp.mem_iff.mp hl) with q | q
            · subst q; exact ⟨_, h1⟩
            · exact E1.lst l q,
          bag := j1,
          base := E1.base,
          pers := (E.pers.trans hs).trans (same_hid_sub fun a ha => (mem a).mp ha),
          bO := E.bO, al := E1.al }
theorem Slots.freeze {pr : Program} {wd : World} {K : PySem.W.Frag} {O : List Addr} {H : Hp} {ds : List D} : ∀ {σ : List (Option V)} {ρ : List SD} {L : List Addr} {i : Nat}, Slots pr wd K O H σ ρ L → ρ[i]? = some (.own ds) → ∃ L1 l L2 xs, L = L1 ++ l :: L2 ∧ H l = some (.lst xs) ∧ RpAll K (hid O H) xs ds ∧
    ∀ O' , Same (hid O H) (hid O' H) → l ∉ O' → Slots pr wd K O' H σ (ρ.set i (.val (.lst ds))) (L1 ++ L2)
  | _, _, _, _, .nil, e => by simp at e
  | _, _, _, 0, .un _, e => by simp at e
  | _, _, _, i + 1, .un s, e => by
    obtain ⟨L1, l, L2, xs, h1, h2, h3, h4⟩ := Slots.freeze (i := i) s (by simpa using e)
    exact ⟨L1, l, L2, xs, h1, h2, h3, fun O' a b => .un (h4 O' a b)⟩
  | _, _, _, 0, .val _ _, e => by simp at e
  | _, _, _, i + 1, .val r s, e => by
    obtain ⟨L1, l, L2, xs, h1, h2, h3, h4⟩ := Slots.freeze (i := i) s (by simpa using e)
    exact ⟨L1, l, L2, xs, h1, h2, h3, fun O' a b => .val (r.mono a) (h4 O' a b)⟩
  | _, _, _, 0, .own h r s, e => by
    simp at e
    subst e
    exact ⟨[], _, _, _, rfl, h, r, fun O' a b => .val (.lst (.inl (by rw [hid_out b]; exact h)) (r.mono a)) (s.move (fun _ _ => rfl) a)⟩
  | _, _, _, i + 1, .own h r s, e => by
    obtain ⟨L1, l, L2, xs, h1, h2, h3, h4⟩ := Slots.freeze (i := i) s (by simpa using e)
    exact ⟨_ :: L1, l, L2, xs, by rw [h1]; rfl, h2, h3, fun O' a b => .own h (r.mono a) (h4 O' a b)⟩
  | _, _, _, 0, .dic _ _, e => by simp at e
  | _, _, _, 0, .dk _ _, e => by simp at e
  | _, _, _, 0, .tw _ _, e => by simp at e
  | _, _, _, i + 1, .dic h s, e => by
    obtain ⟨L1, l, L2, xs, h1, h2, h3, h4⟩ := Slots.freeze (i := i) s (by simpa using e)
    exact ⟨_ :: L1, l, L2, xs, by rw [h1]; rfl, h2, h3, fun O' a b => .dic (h.move rfl a) (h4 O' a b)⟩
  | _, _, _, i + 1, .dk h s, e => by
    obtain ⟨L1, l, L2, xs, h1, h2, h3, h4⟩ := Slots.freeze (i := i) s (by simpa using e)
    exact ⟨_ :: L1, l, L2, xs, by rw [h1]; rfl, h2, h3, fun O' a b => .dk (h.move rfl a) (h4 O' a b)⟩
  | _, _, _, i + 1, .tw h s, e => by
    obtain ⟨L1, l, L2, xs, h1, h2, h3, h4⟩ := Slots.freeze (i := i) s (by simpa using e)
    exact ⟨_ :: L1, l, L2, xs, by rw [h1]; rfl, h2, h3, fun O' a b => .tw (h.move rfl a) (h4 O' a b)⟩
  | _, _, _, 0, .ot _ _ _, e => by simp at e
  | _, _, _, i + 1, .ot h q s, e => by
    obtain ⟨L1, l, L2, xs, h1, h2, h3, h4⟩ := Slots.freeze (i := i) s (by simpa using e)
    exact ⟨_, l, L2, xs, by rw [q, h1, List.append_assoc], h2, h3, fun O' a b => .ot (OT.mv _ h (fun _ _ => rfl) fun _ _ r => r.mono a) (List.append_assoc _ _ _) (h4 O' a b)⟩
theorem Env.freeze {P : Hp} {L : List Addr} {n : Nat} {H : Hp} {σ : List (Option V)} {i : Nat} {ds : List D} (E : Env c P L n H σ ρ) (h : ρ[i]? = some (.own ds)) : ∃ L', Env c P L' n H σ (ρ.set i (.val (.lst ds))) ∧ L'.Sublist L := by
  obtain ⟨Ls, sl, sb⟩ := E.slots
  obtain ⟨L1, l, L2, xs, h1, h2, h3, h4⟩ := sl.freeze h
  have lL : l ∈ L := sb.subset (by rw [h1]; simp)
  have sub : (L.erase l).Sublist L := List.erase_sublist
  have nl : l ∉ L.erase l := E.nd.not_mem_erase
  have sb2 : (L1 ++ L2).Sublist (L.erase l) := by
    have nd := sb.nodup E.nd
    rw [h1] at nd
    have n1 : l ∉ L1 := fun q => by
      have := (List.nodup_append.mp nd).2.2 l q l List.mem_cons_self
      exact this rfl
    have q : (Ls.erase l).Sublist (L.erase l) := sb.erase l
    rw [h1, List.erase_append_right _ n1, List.erase_cons_head] at q
    exact q
  have nO : l ∉ (L.erase l) ++ c.O := fun q => by
    rcases List.mem_append.mp q with q | q
    · exact nl q
    · exact (E.fresh l lL).2 q
  have se : Same (hid (L ++ c.O) H) (hid ((L.erase l) ++ c.O) H) := same_hid_sub fun a ha => by
    rcases List.mem_append.mp ha with q | q
    · exact List.mem_append_left _ (sub.subset q)
    · exact List.mem_append_right _ q
  exact ⟨L.erase l, { nd := sub.nodup E.nd, fresh := fun l hl => E.fresh l (sub.subset hl), slots := ⟨_, h4 _ se nO, sb2⟩, lst := fun l hl => E.lst l (sub.subset hl), base := E.base, pers := E.pers.trans se, bO := E.bO, al := E.al, bag := E.bag }, sub⟩
/-- an own list is handed on, no more changed -/
theorem ws_freeze (i : Nat) {ds : List D} (h : ρ[i]? = some (.own ds)) (k : WS c ts (ρ.set i (.val (.lst ds))) n Ψ) : WS c ts ρ n Ψ := fun P L σ H Dn E A => by
  obtain ⟨L', E', _⟩ := E.freeze h
  exact k P L' σ H Dn E' A
/-- an own list looked at; a scalar comes out -/
def scalar : D → Bool
  | .non => true
  | .bl _ => true
  | .int _ => true
  | .str _ => true
  | _ => false
theorem Rp.scal {K : PySem.W.Frag} {H H' : Hp} {v : V} {d : D} (r : Rp K H v d) (h : scalar d = true) : Rp K H' v d := by
  cases r with
  | non => exact .non
  | bl b => exact .bl b
  | int i => exact .int i
  | str x => exact .str x
  | _ => cases h
theorem wt_look (i : Nat) {Φ : Nat → Bool → Prop} {ds : List D} (h : ρ[i]? = some (.own ds)) (k : WT c t (ρ.set i (.val (.lst ds))) n Φ) : WT c t ρ n Φ := fun P L σ H Q E q => by
  obtain ⟨L', E', sub⟩ := E.freeze h
  exact k P L' σ H Q E' fun b n1 H1 s1 j1 k1 => q b n1 H1 s1 j1 k1
theorem we_look (i : Nat) {ds : List D} (h : ρ[i]? = some (.own ds)) (k : WE c te (ρ.set i (.val (.lst ds))) n fun n1 d => scalar d = true ∧ Φ n1 d) : WE c te ρ n Φ := fun P L σ H Q E q => by
  obtain ⟨L', E', sub⟩ := E.freeze h
  exact k P L' σ H Q E' fun v d n1 H1 s1 j1 r1 ⟨hs, k1⟩ => q v d n1 H1 s1 j1 (r1.scal hs) k1
theorem ws_ret (h : WE c te ρ n Ψ.rt) : WS c (tRet te) ρ n Ψ := fun P L σ H Dn E A => by
  refine h P L σ H _ E fun v d n1 H1 s1 j1 r1 k => ?_
  have E1 := E.step s1 j1
  have se : Same (hid (L ++ c.O) H1) (hid c.O H1) := same_hid_sub fun a ha => List.mem_append_right _ ha
  exact A.rt v d n1 H1 E1.base j1 (r1.mono se) k
theorem ws_retN (k : Ψ.rt n .non) : WS c tRetN ρ n Ψ := fun P L σ H Dn E A => by
  have se : Same (hid (L ++ c.O) H) (hid c.O H) := same_hid_sub fun a ha => List.mem_append_right _ ha
  exact A.rt .non .non n H E.base E.bag .non k
theorem ws_if (h : WT c t ρ n fun n1 b => if b = true then WS c ts ρ n1 Ψ else WS c us ρ n1 Ψ) : WS c (tIfS t ts us) ρ n Ψ := fun P L σ H Dn E A => by
  refine h P L σ H _ E fun b n1 H1 s1 j1 k => ?_
  cases b with
  | true =>
    rw [if_pos rfl] at k ⊢
    exact k P L σ H1 Dn (E.step s1 j1) A
  | false =>
    rw [if_neg Bool.false_ne_true] at k ⊢
    exact k P L σ H1 Dn (E.step s1 j1) A
theorem ws_drop (h : WE c te ρ n fun n1 _ => Ψ.nx n1 ρ) : WS c (tDrop te) ρ n Ψ := fun P L σ H Dn E A => by
  refine h P L σ H _ E fun v d n1 H1 s1 j1 r1 k => ?_
  exact A.nx L n1 H1 σ ρ (E.step s1 j1) k
theorem ws_never (h : False) : WS c ts ρ n Ψ := h.elim
theorem WS.mono {Ψ' : Out} (h : WS c ts ρ n Ψ) (h1 : ∀ n ρ, Ψ.nx n ρ → Ψ'.nx n ρ) (h2 : ∀ n d, Ψ.rt n d → Ψ'.rt n d) (h3 : ∀ n ρ, Ψ.bk n ρ → Ψ'.bk n ρ) (h4 : ∀ n ρ, Ψ.ct n ρ → Ψ'.ct n ρ) : WS c ts ρ n Ψ' := fun P L σ H Dn E A =>
  h P L σ H Dn E { nx := fun L n H σ ρ E k => A.nx L n H σ ρ E (h1 _ _ k), rt := fun v d n H s j r k => A.rt v d n H s j r (h2 _ _ k), bk := fun L n H σ ρ E k => A.bk L n H σ ρ E (h3 _ _ k), ct := fun L n H σ ρ E k => A.ct L n H σ ρ E (h4 _ _ k) }
theorem WE.mono {Φ' : Nat → D → Prop} (h : WE c te ρ n Φ) (k : ∀ n d, Φ n d → Φ' n d) : WE c te ρ n Φ' := fun P L σ H Q E q => h P L σ H Q E fun v d n1 H1 s1 j1 r1 p => q v d n1 H1 s1 j1 r1 (k _ _ p)
theorem WT.mono {Φ Φ' : Nat → Bool → Prop} (h : WT c t ρ n Φ) (k : ∀ n d, Φ n d → Φ' n d) : WT c t ρ n Φ' := fun P L σ H Q E q => h P L σ H Q E fun v n1 H1 s1 j1 p => q v n1 H1 s1 j1 (k _ _ p)

/-! ### targets -/
theorem wg_name {R : ER → ER → Prop} {i : Nat} {d : D} {Φ : List SD → Prop} (hR : ∀ σ v, R σ (σ.set i (some v))) (k : Φ (ρ.set i (.val d))) : WG c R (gName i) d ρ n Φ := fun P L σ H v Q E r q =>
  q _ _ (E.set i r) (hR σ v) k
theorem wgs_nil {R : ER → ER → Prop} {Φ : List SD → Prop} (hR : ∀ σ, R σ σ) (k : Φ ρ) : WGs c R gNil [] ρ n Φ := fun P L σ H vs Q E r q => by
  cases r
  exact ⟨rfl, q σ ρ E (hR σ) k⟩
theorem wgs_cons {R : ER → ER → Prop} {g : TG} {gs : TGs} {d : D} {ds : List D} {Φ : List SD → Prop} (hR : ∀ a b e, R a b → R b e → R a e) (h : WG c R g d ρ n fun ρ1 => WGs c R gs ds ρ1 n Φ) : WGs c R (gCons g gs) (d :: ds) ρ n Φ := fun P L σ H vs Q E r q => by
  cases r with
  | cons r1 r2 =>
    refine ⟨_, _, rfl, ?_⟩
    refine h P L σ H _ _ E r1 fun σ' ρ' E' hR1 k => ?_
    exact k P L σ' H _ _ E' r2 fun σ2 ρ2 E2 hR2 k2 => q σ2 ρ2 E2 (hR _ _ _ hR1 hR2) k2
theorem wg_tup {R : ER → ER → Prop} {m : Nat} {gs : TGs} {ds : List D} {Φ : List SD → Prop} (hl : ds.length = m) (h : WGs c R gs ds ρ n Φ) : WG c R (gTup c.K m gs) (.tup ds) ρ n Φ := fun P L σ H v Q E r q => by
  cases r with
  | tup hs ha =>
    exact ⟨_, _, rfl, same_t same_hid hs, by rw [ha.length]; exact hl, h P L σ H _ Q E ha q⟩

/-! ### loops -/
theorem ws_for {wi : TI} {g : TG} (h : WI c wi ρ n fun n1 ds => ∃ I : Nat → Nat → List SD → Prop, I 0 n1 ρ ∧
    (∀ k m ρ1 d, ds[k]? = some d → I k m ρ1 → WG c (fun _ _ => True) g d ρ1 m fun ρ2 => WS c ts ρ2 m { nx := I (k + 1), ct := I (k + 1), bk := Ψ.nx, rt := Ψ.rt }) ∧ (∀ m ρ1, I ds.length m ρ1 → Ψ.nx m ρ1)) : WS c (tFor wi g ts) ρ n Ψ := fun P L σ H Dn E A => by
  refine h P L σ H _ E fun J ds n1 H1 s1 j1 it ⟨I, h0, hs, hd⟩ => ?_
  have E1 := (E.step s1 j1).pers'
  have pp : Same P (hid (L ++ c.O) H1) := (E.step s1 j1).pers
  have A' : Acc c (hid (L ++ c.O) H1) Ψ Dn := { nx := fun L n H σ ρ E k => A.nx L n H σ ρ (E.persOf pp) k, rt := A.rt, bk := fun L n H σ ρ E k => A.bk L n H σ ρ (E.persOf pp) k, ct := fun L n H σ ρ E k => A.ct L n H σ ρ (E.persOf pp) k }
  refine ⟨fun i m σ H => m + i = ds.length ∧ ∃ L' n' ρ', Env c (hid (L ++ c.O) H1) L' n' H σ ρ' ∧ I i n' ρ', ⟨ds.length, rfl, L, n1, ρ, E1, h0⟩, ?_⟩
  rintro i m σ' H' ⟨hm, L', n', ρ', E', hI⟩
  by_cases hi : i < ds.length
  · right
    have hg : ds[i]? = some ds[i] := List.getElem?_eq_getElem hi
    obtain ⟨go, yl⟩ := it.go L' n' H' σ' ρ' E' i _ hg
    refine ⟨go, fun σ2 H2 => ∃ L2 n2 ρ2, Env c (hid (L ++ c.O) H1) L2 n2 H2 σ2 ρ2 ∧ I (i + 1) n2 ρ2, ?_, ?_⟩
    · rintro σ2 H2 ⟨L2, n2, ρ2, E2, hI2⟩
      exact ⟨m - 1, by omega, by omega, L2, n2, ρ2, E2, hI2⟩
    · intro x H2 hy
      obtain ⟨sm, rx⟩ := yl x H2 hy
      have z := E'.same sm
      refine hs i n' ρ' _ hg hI _ L' σ' H2 x _ (E'.step z.1 z.2) rx fun σ3 ρ3 E3 _ k3 => ?_
      exact k3 _ L' σ3 H2 _ E3 { nx := fun L n H σ ρ E k => ⟨L, n, ρ, E, k⟩, rt := A.rt, bk := fun L n H σ ρ E k => A'.nx L n H σ ρ E k, ct := fun L n H σ ρ E k => ⟨L, n, ρ, E, k⟩ }
  · left
    have e : i = ds.length := by omega
    subst e
    exact ⟨it.stop L' n' H' σ' ρ' E' _ (Nat.le_refl _), A'.nx L' n' H' σ' ρ' E' (hd n' ρ' hI)⟩
end
end L3
/-! L3c: walks, comprehensions, operations. -/
namespace L3
open PySem L2

/-! ### walks -/
def signs (z : Str) : List D := z.cps.toList.map fun c => D.str ⟨#[c]⟩
def items : D → Option (List D)
  | .lst xs => some xs
  | .tup xs => some xs
  | .str z => some (signs z)
  | _ => none
def iSeq (K : PySem.W.Frag) (tl : TE) : TI := fun σ H R => tl σ H fun x H1 => (∃ a, x = .ref a ∧ (((∃ xs, SqL K H1 a xs) ∧ R (Itl K a) H1) ∨ ((∃ xs, SqT K H1 a xs) ∧ R (Itt K a) H1)))
theorem pi_seq {X : Cx} {tg l : Expr} {tl : TE} (hl : PE X l tl) : PI X tg l (iSeq X.K tl) := by
  refine ⟨fun pins s σ H R I h => ?_⟩
  refine thn (hl.run pins s σ H _ I h) fun v s1 ⟨x, H1, I1, r1, q1⟩ => ?_
  obtain ⟨a, e, ⟨⟨xs, hq⟩, q⟩ | ⟨⟨xs, hq⟩, q⟩⟩ := q1
  · subst e
    cases r1
    obtain ⟨its, rv, p, hz⟩ := I1.list hq
    refine wpAny_pyIter_list p.isList ?_
    refine ⟨s1.heap.objs.size, [s1.heap.objs.size], _, _, H1, rfl, I1.kept (t' := s1.toks) fun b o e => Heap.get?_push_of_some _ e, turn_list a _, ⟨_, Heap.get?_push_size _ rfl, rfl, rfl⟩, fun b hb => ?_, q⟩
    have e : b = s1.heap.objs.size := by simpa using hb
    subst e
    exact I1.fpOk (Nat.le_refl _) (I1.hok.fresh (Nat.le_refl _))
  · subst e
    cases r1
    obtain ⟨its, rv, p, hz⟩ := I1.tuple hq
    refine wpAny_pyIter_tuple (show s1.heap.IsTuple a its.toArray from p) ?_
    refine ⟨s1.heap.objs.size, [s1.heap.objs.size], _, _, H1, rfl, I1.kept (t' := s1.toks) fun b o e => Heap.get?_push_of_some _ e, turn_tuple a _, ⟨_, Heap.get?_push_size _ rfl, rfl, rfl⟩, fun b hb => ?_, q⟩
    have e : b = s1.heap.objs.size := by simpa using hb
    subst e
    exact I1.fpOk (Nat.le_refl _) (I1.hok.fresh (Nat.le_refl _))
section
variable {c : Ctx} {ρ : List SD} {n : Nat} {ta tb te : TE} {t u : TT} {as : TA} {Φ : Nat → D → Prop} {Ψ : Out} {ts us : TS}
theorem Env.perR {P : Hp} {L : List Addr} {n : Nat} {H : Hp} {σ : List (Option V)} (E : Env c P L n H σ ρ) : Same P H := E.pers.trans same_hid
theorem it_l {a : Addr} {xs : List V} {ds : List D} {P : Hp} (hs : SqL c.K P a xs) (hr : RpAll c.K P xs ds) : ItOk c (Itl c.K a) ds P where
  go := fun L n H σ ρ E i d hd => by
    obtain ⟨v, h1, h2⟩ := hr.get' hd
    refine ⟨⟨xs, v, same_l E.perR hs, h1⟩, fun x H' ⟨e, hy⟩ => ?_⟩
    subst e
    have e := hy xs (same_l E.perR hs)
    rw [h1] at e
    cases e
    exact ⟨Same.refl _, h2.mono E.pers⟩
  stop := fun L n H σ ρ E i hi => ⟨xs, same_l E.perR hs, by rw [hr.length]; exact hi⟩
theorem it_t {a : Addr} {xs : List V} {ds : List D} {P : Hp} (hs : SqT c.K P a xs) (hr : RpAll c.K P xs ds) : ItOk c (Itt c.K a) ds P where
  go := fun L n H σ ρ E i d hd => by
    obtain ⟨v, h1, h2⟩ := hr.get' hd
    refine ⟨⟨xs, v, same_t E.perR hs, h1⟩, fun x H' ⟨e, hy⟩ => ?_⟩
    subst e
    have e := hy xs (same_t E.perR hs)
    rw [h1] at e
    cases e
    exact ⟨Same.refl _, h2.mono E.pers⟩
  stop := fun L n H σ ρ E i hi => ⟨xs, same_t E.perR hs, by rw [hr.length]; exact hi⟩
def seqD : D → Option (List D)
  | .lst xs => some xs
  | .tup xs => some xs
  | _ => none
theorem wi_seq {Φ : Nat → List D → Prop} (h : WE c te ρ n fun n1 d => ∃ ds, seqD d = some ds ∧ Φ n1 ds) : WI c (iSeq c.K te) ρ n Φ := fun P L σ H R E q => by
  refine h P L σ H _ E fun x d n1 H1 s1 j1 r1 ⟨ds, e, k⟩ => ?_
  cases r1 with
  | lst hs ha =>
    cases e
    exact ⟨_, rfl, .inl ⟨⟨_, .inl (same_rd same_hid hs)⟩, q _ _ n1 H1 s1 j1 (it_l (.inl hs) ha) k⟩⟩
  | tup hs ha =>
    cases e
    exact ⟨_, rfl, .inr ⟨⟨_, same_t same_hid hs⟩, q _ _ n1 H1 s1 j1 (it_t hs ha) k⟩⟩
  | _ => cases e
def rangeD (lo : Int) (m : Nat) : List D := (List.range m).map fun k => D.int (lo + (k : Nat))
theorem rangeD_get {lo : Int} {m i : Nat} {d : D} (h : (rangeD lo m)[i]? = some d) : i < m ∧ d = .int (lo + i) := by
  unfold rangeD at h
  rw [List.getElem?_map] at h
  by_cases hi : i < m
  · rw [List.getElem?_range hi] at h
    exact ⟨hi, (Option.some.inj h).symm⟩
  · rw [List.getElem?_eq_none (by simp; omega)] at h
    cases h
theorem rangeD_len {lo : Int} {m : Nat} : (rangeD lo m).length = m := by unfold rangeD; simp
theorem it_r {lo : Int} {m : Nat} {P : Hp} : ItOk c (Itr lo m) (rangeD lo m) P where
  go := fun L n H σ ρ E i d hd => by
    obtain ⟨h1, h2⟩ := rangeD_get hd
    refine ⟨h1, fun x H' ⟨e, hy⟩ => ?_⟩
    subst e; subst hy; subst h2
    exact ⟨Same.refl _, .int _⟩
  stop := fun L n H σ ρ E i hi => by rw [rangeD_len] at hi; exact hi
theorem wi_rng1 {Φ : Nat → List D → Prop} (h : WA c as ρ n fun n1 ds => ∃ j : Int, ds = [.int j] ∧ -(2 ^ 62) ≤ j ∧ j < 2 ^ 62 ∧ Φ n1 (rangeD 0 j.toNat)) : WI c (iRng1 as) ρ n Φ := fun P L σ H R E q => by
  refine h P L σ H _ E fun vs ds n1 H1 s1 j1 r1 ⟨j, e, h1, h2, k⟩ => ?_
  subst e
  cases r1 with
  | cons r rr =>
    cases rr
    cases r
    exact ⟨j, rfl, h1, h2, q _ _ n1 H1 s1 j1 it_r k⟩
theorem wi_rng2 {Φ : Nat → List D → Prop} (h : WA c as ρ n fun n1 ds => ∃ i j : Int, ds = [.int i, .int j] ∧ (-(2 ^ 62) ≤ i ∧ i < 2 ^ 62 ∧ -(2 ^ 62) ≤ j ∧ j < 2 ^ 62) ∧ Φ n1 (rangeD i (j - i).toNat)) : WI c (iRng2 as) ρ n Φ := fun P L σ H R E q => by
  refine h P L σ H _ E fun vs ds n1 H1 s1 j1 r1 ⟨i, j, e, h1, k⟩ => ?_
  subst e
  cases r1 with
  | cons r rr =>
    cases rr with
    | cons r2 rr =>
      cases rr
      cases r
      cases r2
      exact ⟨i, j, rfl, h1, q _ _ n1 H1 s1 j1 it_r k⟩
/-- pairs (i, x) -/
def enumD (i : Int) : List D → List D
  | [] => []
  | d :: ds => .tup [.int i, d] :: enumD (i + 1) ds
theorem enumD_len : ∀ (ds : List D) (i : Int), (enumD i ds).length = ds.length
  | [], _ => rfl
  | _ :: ds, i => by show (enumD (i + 1) ds).length + 1 = ds.length + 1; rw [enumD_len ds]
theorem enumD_get : ∀ {ds : List D} {i : Int} {k : Nat} {d : D}, (enumD i ds)[k]? = some d → ∃ e, ds[k]? = some e ∧ d = .tup [.int (i + k), e]
  | [], i, k, d, h => by simp [enumD] at h
  | x :: ds, i, 0, d, h => by
    simp [enumD] at h
    exact ⟨x, rfl, by rw [← h]; simp⟩
  | x :: ds, i, k + 1, d, h => by
    obtain ⟨e, h1, h2⟩ := enumD_get (ds := ds) (i := i + 1) (k := k) (by simpa [enumD] using h)
    refine ⟨e, by simpa using h1, ?_⟩
    rw [h2]
    have : i + 1 + (k : Int) = i + ((k + 1 : Nat) : Int) := by omega
    rw [this]
theorem it_e {a : Addr} {xs : List V} {ds : List D} {P : Hp} (hs : SqL c.K P a xs) (hr : RpAll c.K P xs ds) : ItOk c (Ite c.K a) (enumD 0 ds) P where
  go := fun L n H σ ρ E i d hd => by
    obtain ⟨e, h1, h2⟩ := enumD_get hd
    obtain ⟨v, g1, g2⟩ := hr.get' h1
    subst h2
    refine ⟨⟨xs, v, same_l E.perR hs, g1⟩, fun x H' ⟨T, y, e1, e2, e3, hy⟩ => ?_⟩
    subst e1; subst e3
    have e4 := hy xs (same_l E.perR hs)
    rw [g1] at e4
    cases e4
    have sm := same_upd_new (o := .tup [.int (i : Nat), v]) e2
    refine ⟨sm, .tup (.inl (.inl (hid_at (E.noO T e2)))) (.cons ?_ (.cons ((g2.mono E.pers).mono (same_hid_of sm)) .nil))⟩
    have e5 : (0 : Int) + (i : Int) = (i : Int) := by omega
    rw [e5]
    exact .int _
  stop := fun L n H σ ρ E i hi => by
    rw [enumD_len] at hi
    exact ⟨xs, same_l E.perR hs, by rw [hr.length]; exact hi⟩
theorem wi_enum {Φ : Nat → List D → Prop} (h : WA c as ρ n fun n1 ds => ∃ xs, ds = [.lst xs] ∧ Φ n1 (enumD 0 xs)) : WI c (iEnum c.K as) ρ n Φ := fun P L σ H R E q => by
  refine h P L σ H _ E fun vs ds n1 H1 s1 j1 r1 ⟨xs, e, k⟩ => ?_
  subst e
  cases r1 with
  | cons r rr =>
    cases rr
    cases r with
    | lst hs ha => exact ⟨_, _, rfl, .inl (same_rd same_hid hs), q _ _ n1 H1 s1 j1 (it_e (.inl hs) ha) k⟩

/-! ### comprehensions -/
def wipeR (ρ : List SD) : List Nat → List SD
  | [] => ρ
  | v :: vs => (wipeR ρ vs).set v .un
theorem Slots.unset {pr : Program} {wd : World} {K : PySem.W.Frag} {O : List Addr} {H : Hp} : ∀ {σ : List (Option V)} {ρ : List SD} {L : List Addr} (i : Nat), Slots pr wd K O H σ ρ L → ∃ L', Slots pr wd K O H (σ.set i none) (ρ.set i .un) L' ∧ L'.Sublist L
  | _, _, _, _, .nil => ⟨[], .nil, List.Sublist.refl _⟩
  | _, _, _, 0, .un s => ⟨_, .un s, List.Sublist.refl _⟩
  | _, _, _, 0, .val _ s => ⟨_, .un s, List.Sublist.refl _⟩
  | _, _, _, 0, .own _ _ s => ⟨_, .un s, List.sublist_cons_self _ _⟩
  | _, _, _, i + 1, .un s => by
    obtain ⟨L', h1, h2⟩ := Slots.unset i s
    exact ⟨L', .un h1, h2⟩
  | _, _, _, i + 1, .val h s => by
    obtain ⟨L', h1, h2⟩ := Slots.unset i s
    exact ⟨L', .val h h1, h2⟩
  | _, _, _, i + 1, .own h r s => by
    obtain ⟨L', h1, h2⟩ := Slots.unset i s
    exact ⟨_ :: L', .own h r h1, h2.cons_cons _⟩
  | _, _, _, 0, .dic _ s => ⟨_, .un s, List.sublist_cons_self _ _⟩
  | _, _, _, 0, .dk _ s => ⟨_, .un s, List.sublist_cons_self _ _⟩
  | _, _, _, 0, .tw _ s => ⟨_, .un s, List.sublist_cons_self _ _⟩
  | _, _, _, i + 1, .dic h s => by
    obtain ⟨L', h1, h2⟩ := Slots.unset i s
    exact ⟨_ :: L', .dic h h1, h2.cons_cons _⟩
  | _, _, _, i + 1, .dk h s => by
    obtain ⟨L', h1, h2⟩ := Slots.unset i s
    exact ⟨_ :: L', .dk h h1, h2.cons_cons _⟩
  | _, _, _, i + 1, .tw h s => by
    obtain ⟨L', h1, h2⟩ := Slots.unset i s
    exact ⟨_ :: L', .tw h h1, h2.cons_cons _⟩
  | _, _, _, 0, .ot _ q s => ⟨_, .un s, by rw [q]; exact List.sublist_append_right _ _⟩
  | _, _, _, i + 1, .ot h q s => by
    obtain ⟨L', h1, h2⟩ := Slots.unset i s
    exact ⟨_, .ot h rfl h1, by rw [q]; exact List.Sublist.append_left h2 _⟩
theorem Slots.wipe {pr : Program} {wd : World} {K : PySem.W.Frag} {O : List Addr} {H : Hp} {σ : List (Option V)} {ρ : List SD} {L : List Addr} (s : Slots pr wd K O H σ ρ L) : ∀ vs : List Nat, ∃ L', Slots pr wd K O H (wipe σ vs) (wipeR ρ vs) L' ∧ L'.Sublist L
  | [] => ⟨L, s, List.Sublist.refl _⟩
  | v :: vs => by
    obtain ⟨L1, h1, h2⟩ := Slots.wipe s vs
    obtain ⟨L2, h3, h4⟩ := h1.unset v
    exact ⟨L2, h3, h4.trans h2⟩
theorem wipe_set {σ : List (Option V)} {i : Nat} {v : V} : ∀ {vs : List Nat}, i ∈ vs → wipe (σ.set i (some v)) vs = wipe σ vs
  | w :: vs, h => by
    show (wipe (σ.set i (some v)) vs).set w none = (wipe σ vs).set w none
    by_cases hi : i ∈ vs
    · rw [wipe_set hi]
    · have hw : w = i := by
        rcases List.mem_cons.mp h with e | e
        · exact e.symm
        · exact absurd e hi
      subst hw
      have z : ∀ us : List Nat, w ∉ us → wipe (σ.set w (some v)) us = (wipe σ us).set w (some v) := by
        intro us
        induction us with
        | nil => intro _; rfl
        | cons u us ih =>
          intro hn
          show (wipe (σ.set w (some v)) us).set u none = ((wipe σ us).set u none).set w (some v)
          rw [ih fun q => hn (List.mem_cons_of_mem _ q)]
          exact List.set_comm _ _ fun e => hn (by rw [e]; exact List.mem_cons_self)
      rw [z vs hi, List.set_set]
theorem wipe_get {i : Nat} : ∀ {vs : List Nat} {σ : List (Option V)}, (wipe σ vs)[i]? = if i ∈ vs then σ[i]?.map fun _ => none else σ[i]?
  | [], σ => by simp [wipe]
  | v :: vs, σ => by
    show ((wipe σ vs).set v none)[i]? = _
    rw [List.getElem?_set]
    by_cases e : v = i
    · subst e
      rw [if_pos rfl, if_pos List.mem_cons_self]
      by_cases hl : v < (wipe σ vs).length
      · rw [if_pos hl]
        rw [wipe_length] at hl
        rw [List.getElem?_eq_getElem hl]; rfl
      · rw [if_neg hl]
        rw [wipe_length] at hl
        rw [List.getElem?_eq_none (by omega)]; rfl
    · rw [if_neg e, wipe_get]
      by_cases h : i ∈ vs
      · rw [if_pos h, if_pos (List.mem_cons_of_mem _ h)]
      · rw [if_neg h, if_neg (fun q => by rcases List.mem_cons.mp q with z | z; exact e z.symm; exact h z)]
theorem wipe_idem (σ : List (Option V)) (vs : List Nat) : wipe (wipe σ vs) vs = wipe σ vs := by
  apply List.ext_getElem?
  intro i
  rw [wipe_get, wipe_get]
  by_cases h : i ∈ vs
  · rw [if_pos h, if_pos h]; cases σ[i]? <;> rfl
  · rw [if_neg h, if_neg h]
theorem Slots.inj {pr : Program} {wd : World} {K : PySem.W.Frag} {O O' : List Addr} {H H' : Hp} : ∀ {σ : List (Option V)} {ρ : List SD} {L L' : List Addr}, Slots pr wd K O H σ ρ L → Slots pr wd K O' H' σ ρ L' → L = L'
  | _, _, _, _, .nil, .nil => rfl
  | _, _, _, _, .un s, .un t => Slots.inj s t
  | _, _, _, _, .val _ s, .val _ t => Slots.inj s t
  | _, _, _, _, .own _ _ s, .own _ _ t => by rw [Slots.inj s t]
  | _, _, _, _, .dic _ s, .dic _ t => by rw [Slots.inj s t]
  | _, _, _, _, .dk _ s, .dk _ t => by rw [Slots.inj s t]
  | _, _, _, _, .tw _ s, .tw _ t => by rw [Slots.inj s t]
  | _, _, _, _, .ot _ q s, .ot _ q2 t => by rw [q, q2, Slots.inj s t]
theorem Env.noneB {P : Hp} {L : List Addr} {n n' : Nat} {H H' : Hp} {σ : List (Option V)} (E : Env c P L n H σ ρ) (e : Same (hid c.B H) (hid c.B H')) (j : c.J n' H') {p : Addr} (hp : H' p = none) : H p = none := by
  cases h : H p with
  | none => rfl
  | some o =>
    by_cases hb : p ∈ c.B
    · exact absurd hp ((E.step e j).al p (E.inO hb))
    · rw [(hid_some.mp (e p o (hid_some.mpr ⟨hb, h⟩))).2] at hp
      cases hp
theorem same_upd_old {B : List Addr} {H H' : Hp} {D : Addr} {o : HO} (h : H D = none) (s : Same (hid B H) (hid B H')) : Same (hid B H) (hid B (upd H' D o)) := fun a u e => by
  obtain ⟨h1, h2⟩ := hid_some.mp (s a u e)
  have ne : a ≠ D := fun q => by
    rw [q, hid_some, h] at e
    cases e.2
  exact hid_some.mpr ⟨h1, by rw [upd_ne ne]; exact h2⟩
/-- what the store to a comprehension's own names leaves -/
abbrev RW (vs : List Nat) : ER → ER → Prop := fun a b => wipe b vs = wipe a vs
theorem rw_name {vs : List Nat} {i : Nat} (h : i ∈ vs) : ∀ (σ : ER) (v : V), RW vs σ (σ.set i (some v)) := fun σ v => wipe_set h
theorem rw_refl {vs : List Nat} : ∀ σ : ER, RW vs σ σ := fun _ => rfl
theorem rw_trans {vs : List Nat} : ∀ a b e : ER, RW vs a b → RW vs b e → RW vs a e := fun _ _ _ h1 h2 => h2.trans h1
/-- the new list of a comprehension grows -/
theorem Env.grow {P : Hp} {L : List Addr} {n : Nat} {H : Hp} {σ : List (Option V)} {D : Addr} {xs : List V} {Ls : List Addr} (E : Env c P L n H σ ρ) (hD : D ∈ L) (sl : Slots c.pr c.wd c.K (L ++ c.O) H σ ρ Ls) (sb : Ls.Sublist L) (hn : D ∉ Ls) : Env c P L n (upd H D (.lst xs)) σ ρ := by
  have hm : D ∈ L ++ c.O := List.mem_append_left _ hD
  have hB : D ∉ c.B := E.notB hD
  have hO : D ∉ c.O := (E.fresh D hD).2
  exact { nd := E.nd, fresh := E.fresh,
          slots := ⟨Ls, sl.move (fun l hl => upd_ne fun e => hn (e ▸ hl)) (by rw [hid_upd_in hm]; exact Same.refl _), sb⟩,
          lst := fun l hl => by
            by_cases e : l = D
            · exact ⟨_, by rw [e, upd_same]⟩
            · rw [upd_ne e]; exact E.lst l hl,
          bag := fun b q hb => (E.bag b q hb).move (fun o h => by rw [upd_ne fun e : b = D => hO (e ▸ (E.bO b q hb).1)]; exact h) fun o h => by rw [upd_ne fun e : q = D => hO (e ▸ (E.bO b q hb).2.1)]; exact h,
          base := fun a o h => by
            have h0 : c.H0 D = none := (E.fresh D hD).1
            have ne : a ≠ D := fun e => by
              rw [e, hid_some] at h
              rw [h0] at h
              cases h.2
            obtain ⟨h1, h2⟩ := hid_some.mp (E.base a o h)
            exact hid_some.mpr ⟨h1, by rw [upd_ne ne]; exact h2⟩,
          pers := by rw [hid_upd_in hm]; exact E.pers,
          bO := E.bO,
          al := fun o ho => by rw [upd_ne fun e : o = D => hO (e ▸ ho)]; exact E.al o ho }
theorem Env.newOwn {P : Hp} {L : List Addr} {n : Nat} {H : Hp} {σ : List (Option V)} {D : Addr} {xs : List V} (E : Env c P L n H σ ρ) (hD : H D = none) : Env c P (D :: L) n (upd H D (.lst xs)) σ ρ := by
  have w := E.new hD
  obtain ⟨Ls, sl, sb⟩ := E.slots
  have e0 : hid ((D :: L) ++ c.O) (upd H D (.lst xs)) = hid (L ++ c.O) H := hid_new_in hD
  exact { nd := List.nodup_cons.mpr ⟨w.2.2, E.nd⟩,
          fresh := fun l hl => by
            rcases List.mem_cons.mp hl with e | e
            · subst e; exact ⟨w.1, w.2.1⟩
            · exact E.fresh l e,
          slots := ⟨Ls, sl.move (fun l hl => upd_ne fun e => w.2.2 (e ▸ sb.subset hl)) (by rw [e0]; exact Same.refl _), sb.cons _⟩,
          lst := fun l hl => by
            rcases List.mem_cons.mp hl with e | e
            · subst e; exact ⟨_, upd_same⟩
            · rw [upd_ne fun q : l = D => w.2.2 (q ▸ e)]; exact E.lst l e,
          bag := (E.newT hD).2.1,
          base := E.base.trans (E.newT hD).1,
          pers := by rw [e0]; exact E.pers,
          bO := E.bO,
          al := fun o ho => by rw [upd_ne fun e : o = D => w.2.1 (e ▸ ho)]; exact E.al o ho }
theorem wf_lc {wi : TI} {g : TG} {vs : List Nat} {Φ : Nat → List D → Prop} (h : WI c wi ρ n fun n1 ds => ∃ I : Nat → Nat → List D → Prop, I 0 n1 [] ∧
    (∀ k m acc d, ds[k]? = some d → I k m acc → WG c (RW vs) g d (wipeR ρ vs) m fun ρ2 => WT c t ρ2 m fun m2 b => if b = true then WE c te ρ2 m2 fun m3 y => acc.length < sizeLine ∧ I (k + 1) m3 (acc ++ [y]) else I (k + 1) m2 acc) ∧
    (∀ m acc, I ds.length m acc → Φ m acc)) : WF c (tLc wi g t te vs) ρ n Φ := fun P L σ H Q E q => by
  refine h P L σ H _ E fun J ds n1 H1 s1 j1 it ⟨I, h0, hs, hd⟩ => ?_
  intro D hD
  have E1 := (E.step s1 j1).pers'
  obtain ⟨Ls, sl, sb⟩ := E1.slots
  obtain ⟨Lw, slw, sbw⟩ := sl.wipe vs
  have Ew : Env c (hid (L ++ c.O) H1) L n1 H1 (wipe σ vs) (wipeR ρ vs) := E1.reslot slw (sbw.trans sb)
  have E2 := Ew.newOwn (xs := []) hD
  have DnL : D ∉ L := (E1.new hD).2.2
  -- the loop's invariant
  refine ⟨fun i m H' => m + i = ds.length ∧ ∃ n' xs acc, Env c (hid (L ++ c.O) H1) (D :: L) n' H' (wipe σ vs) (wipeR ρ vs) ∧ H' D = some (.lst xs) ∧ RpAll c.K (hid ((D :: L) ++ c.O) H') xs acc ∧ Same (hid c.B H1) (hid c.B H') ∧ I i n' acc, ⟨ds.length, rfl, n1, [], [], E2, upd_same, .nil, (E1.newT hD).1, h0⟩, ?_⟩
  rintro i m H' ⟨hm, n', xs, acc, E', hDx, hacc, sB, hI⟩
  by_cases hi : i < ds.length
  · right
    have hg : ds[i]? = some ds[i] := List.getElem?_eq_getElem hi
    obtain ⟨go, yl⟩ := it.go (D :: L) n' H' _ _ E' i _ hg
    refine ⟨go, fun H2 => ∃ n' xs acc, Env c (hid (L ++ c.O) H1) (D :: L) n' H2 (wipe σ vs) (wipeR ρ vs) ∧ H2 D = some (.lst xs) ∧ RpAll c.K (hid ((D :: L) ++ c.O) H2) xs acc ∧ Same (hid c.B H1) (hid c.B H2) ∧ I (i + 1) n' acc, ?_, ?_⟩
    · rintro H2 ⟨n2, xs2, acc2, a1, a2, a3, a4, a5⟩
      exact ⟨m - 1, by omega, by omega, n2, xs2, acc2, a1, a2, a3, a4, a5⟩
    · intro x H2 hy
      obtain ⟨sm, rx⟩ := yl x H2 hy
      have z := E'.same sm
      have E2' := E'.step z.1 z.2
      refine hs i n' acc _ hg hI _ (D :: L) _ H2 x _ E2' rx fun σ3 ρ3 E3 hw k3 => ?_
      refine ⟨hw.trans (wipe_idem σ vs), ?_⟩
      refine k3 _ (D :: L) σ3 H2 _ E3 fun b n4 H4 s4 j4 k4 => ?_
      have back : ∀ {H5 : Hp} {n5 : Nat}, Same (hid c.B H2) (hid c.B H5) → c.J n5 H5 → Env c (hid (L ++ c.O) H1) (D :: L) n5 H5 (wipe σ vs) (wipeR ρ vs) := fun s5 j5 => E2'.step s5 j5
      have own : ∀ {H5 : Hp}, Same (hid c.B H2) (hid c.B H5) → H5 D = some (.lst xs) := fun s5 => by
        rw [E2'.own s5 D List.mem_cons_self]
        exact sm D _ hDx
      have accs : ∀ {H5 : Hp}, Same (hid c.B H2) (hid c.B H5) → RpAll c.K (hid ((D :: L) ++ c.O) H5) xs acc := fun s5 => (hacc.mono (same_hid_of sm)).mono (E2'.sameLO s5)
      cases b with
      | false =>
        rw [if_neg Bool.false_ne_true] at k4 ⊢
        exact ⟨n4, xs, acc, back s4 j4, own s4, accs s4, (sB.trans z.1).trans s4, k4⟩
      | true =>
        rw [if_pos rfl] at k4 ⊢
        refine k4 _ (D :: L) σ3 H4 _ (E3.step s4 j4) fun y d n5 H5 s5 j5 r5 ⟨hz, k5⟩ => ?_
        have s45 := s4.trans s5
        refine ⟨xs, own s45, by rw [hacc.length]; exact hz, n5, xs ++ [y], acc ++ [d], ?_, upd_same, ?_, ?_, k5⟩
        · have Eb := back s45 j5
          obtain ⟨Ls5, sl5, sb5⟩ := Eb.slots
          have e5 := sl5.inj slw
          subst e5
          exact Eb.grow List.mem_cons_self sl5 sb5 fun q => DnL ((sbw.trans sb).subset q)
        · have hm : D ∈ (D :: L) ++ c.O := List.mem_append_left _ List.mem_cons_self
          rw [hid_upd_in hm]
          exact (accs s45).append (.cons r5 .nil)
        · exact same_upd_old hD ((sB.trans z.1).trans s45)
  · left
    have e : i = ds.length := by omega
    subst e
    refine ⟨it.stop (D :: L) n' H' _ _ E' _ (Nat.le_refl _), ?_⟩
    exact q D xs acc n' H' (s1.trans sB) (E.noneB s1 j1 hD) hDx hacc E'.bag (hd n' acc hI)
end
end L3
/-! L3d: operations over data. -/
namespace L3
open PySem L2

/-! ### data as the library's data -/
mutual
def dpy : D → PyData
  | .non => .none
  | .bl b => .bool b
  | .int i => .int i
  | .str s => .str s
  | .lst xs => .list (dpyAll xs)
  | .tup xs => .tuple (dpyAll xs)
  | .obj _ _ => .none
  | .dct _ => .none
  | .dcn _ _ _ => .none
  | .adr _ => .none
  | .ty _ => .none
  | .er _ _ => .none
def dpyAll : List D → List PyData
  | [] => []
  | x :: xs => dpy x :: dpyAll xs
end
mutual
def plain : D → Bool
  | .lst xs => plainAll xs
  | .tup xs => plainAll xs
  | .obj _ _ => false
  | .dct _ => false
  | .dcn _ _ _ => false
  | .adr _ => false
  | .ty _ => false
  | .er _ _ => false
  | _ => true
def plainAll : List D → Bool
  | [] => true
  | x :: xs => plain x && plainAll xs
end
theorem dpyAll_map : ∀ xs : List D, dpyAll xs = xs.map dpy
  | [] => rfl
  | x :: xs => by show dpy x :: dpyAll xs = _; rw [dpyAll_map xs]; rfl
section
variable {K : PySem.W.Frag} {H : Hp}
mutual
theorem dp_D : ∀ (d : D) (v : V), Rp K H v d → plain d = true → Dp K H v (dpy d)
  | .non, _, h, _ => by cases h; exact .non
  | .bl b, _, h, _ => by cases h; exact .bl b
  | .int i, _, h, _ => by cases h; exact .int i
  | .str x, _, h, _ => by cases h; exact .str x
  | .lst xs, _, h, p => by
    cases h with
    | lst h r => exact .lst (.inl h) (dp_Ds xs _ r p)
  | .tup xs, _, h, p => by
    cases h with
    | tup h r => exact .tup h (dp_Ds xs _ r p)
  | .obj _ _, _, _, p => by cases p
  | .adr _, _, _, p => by cases p
  | .ty _, _, _, p => by cases p
  | .er _ _, _, _, p => by cases p
  | .dct _, _, _, p => by cases p
  | .dcn _ _ _, _, _, p => by cases p
theorem dp_Ds : ∀ (ds : List D) (vs : List V), RpAll K H vs ds → plainAll ds = true → DpAll K H vs (dpyAll ds)
  | [], _, h, _ => by cases h; exact .nil
  | x :: xs, _, h, p => by
    cases h with
    | cons h r =>
      have p' : (plain x && plainAll xs) = true := p
      rw [Bool.and_eq_true] at p'
      exact .cons (dp_D x _ h p'.1) (dp_Ds xs _ r p'.2)
end
theorem Rp.dp {v : V} {d : D} (h : Rp K H v d) (p : plain d = true) : Dp K H v (dpy d) := dp_D d v h p
theorem RpAll.dp {vs : List V} {ds : List D} (h : RpAll K H vs ds) (p : plainAll ds = true) : DpAll K H vs (dpyAll ds) := dp_Ds ds vs h p
mutual
theorem Dp.mono {H' : Hp} (e : Same H H') : ∀ {v : V} {d : PyData}, Dp K H v d → Dp K H' v d
  | _, _, .non => .non
  | _, _, .bl b => .bl b
  | _, _, .int i => .int i
  | _, _, .str x => .str x
  | _, _, .lst h r => .lst (same_l e h) (DpAll.mono e r)
  | _, _, .tup h r => .tup (same_t e h) (DpAll.mono e r)
theorem DpAll.mono {H' : Hp} (e : Same H H') : ∀ {vs : List V} {ds : List PyData}, DpAll K H vs ds → DpAll K H' vs ds
  | _, _, .nil => .nil
  | _, _, .cons h r => .cons (Dp.mono e h) (DpAll.mono e r)
end
end
/-- fit for == -/
def fit (d : D) : Bool := plain d && SeqAt.shaped (dpy d)
def eqD (d e : D) : Bool := PyData.eqv (dpy d) (dpy e)
theorem fit_p {d : D} (h : fit d = true) : plain d = true := (Bool.and_eq_true_iff.mp h).1
theorem fit_s {d : D} (h : fit d = true) : SeqAt.shaped (dpy d) = true := (Bool.and_eq_true_iff.mp h).2
section
variable {K : PySem.W.Frag} {Φ : D → Prop}
theorem r2_eqD {d e : D} (hd : fit d = true) (he : fit e = true) (k : Φ (.bl (eqD d e))) : R2D K (rEqD K) d e Φ := fun O H x y Q rx ry _ q =>
  ⟨dpy d, dpy e, Dp.mono same_hid (rx.dp (fit_p hd)), Dp.mono same_hid (ry.dp (fit_p he)), fit_s hd, fit_s he, q _ _ H (Same.refl _) (.bl _) k⟩
theorem r2_neD {d e : D} (hd : fit d = true) (he : fit e = true) (k : Φ (.bl (!eqD d e))) : R2D K (rNeD K) d e Φ := fun O H x y Q rx ry _ q =>
  ⟨dpy d, dpy e, Dp.mono same_hid (rx.dp (fit_p hd)), Dp.mono same_hid (ry.dp (fit_p he)), fit_s hd, fit_s he, q _ _ H (Same.refl _) (.bl _) k⟩
end
/-- in, over a list or a tuple of data -/
def rInS (K : PySem.W.Frag) (neg : Bool) : R2 := fun x y H Q => ∃ d ds, Dp K H x d ∧ (Dp K H y (.list ds) ∨ Dp K H y (.tuple ds)) ∧ SeqAt.shaped d = true ∧ SeqAt.shaped (.list ds) = true ∧ Q (.bl (if neg then !ds.any fun z => PyData.eqv z d else ds.any fun z => PyData.eqv z d)) H
theorem op_inSeq {X : Cx} (hu : X.A.units + 65 < cLine) : OpR X (compareOp .In) (rInS X.K false) := by
  intro pins s σ H x y v u Q I rx ry h
  obtain ⟨d, ds, hd, he | he, sd, se, q⟩ := h
  · obtain ⟨as, r1⟩ := Dp.reads I d x v hd rx
    obtain ⟨bs, r2⟩ := Dp.reads I (.list ds) y u he ry
    exact SeqAt.in_list_reads r2 r1 (SeqAt.canLay_of_shaped se) (SeqAt.canLay_of_shaped sd) (PyProof.Rows.room_in_shaped sd hu) ⟨.bl _, H, I, rfl, q⟩
  · obtain ⟨as, r1⟩ := Dp.reads I d x v hd rx
    obtain ⟨bs, r2⟩ := Dp.reads I (.tuple ds) y u he ry
    exact SeqAt.in_tuple_reads r2 r1 (SeqAt.canLay_of_shaped se) (SeqAt.canLay_of_shaped sd) (PyProof.Rows.room_in_shaped sd hu) ⟨.bl _, H, I, rfl, q⟩
theorem op_notInSeq {X : Cx} (hu : X.A.units + 65 < cLine) : OpR X (compareOp .NotIn) (rInS X.K true) := by
  intro pins s σ H x y v u Q I rx ry h
  obtain ⟨d, ds, hd, he | he, sd, se, q⟩ := h
  · obtain ⟨as, r1⟩ := Dp.reads I d x v hd rx
    obtain ⟨bs, r2⟩ := Dp.reads I (.list ds) y u he ry
    exact SeqAt.notIn_list_reads r2 r1 (SeqAt.canLay_of_shaped se) (SeqAt.canLay_of_shaped sd) (PyProof.Rows.room_in_shaped sd hu) ⟨.bl _, H, I, rfl, q⟩
  · obtain ⟨as, r1⟩ := Dp.reads I d x v hd rx
    obtain ⟨bs, r2⟩ := Dp.reads I (.tuple ds) y u he ry
    exact SeqAt.notIn_tuple_reads r2 r1 (SeqAt.canLay_of_shaped se) (SeqAt.canLay_of_shaped sd) (PyProof.Rows.room_in_shaped sd hu) ⟨.bl _, H, I, rfl, q⟩
def inD (d : D) (ds : List D) : Bool := ds.any fun z => eqD z d
theorem inD_py (d : D) (ds : List D) : ((dpyAll ds).any fun z => PyData.eqv z (dpy d)) = inD d ds := by
  rw [dpyAll_map, List.any_map]; rfl
theorem r2_in {K : PySem.W.Frag} {Φ : D → Prop} {d e : D} {ds : List D} (hs : seqD e = some ds) (hd : fit d = true) (he : fit (.lst ds) = true) (k : Φ (.bl (inD d ds))) : R2D K (rInS K false) d e Φ := fun O H x y Q rx ry _ q => by
  have z : PyData.list (dpyAll ds) = dpy (.lst ds) := rfl
  refine ⟨dpy d, dpyAll ds, Dp.mono same_hid (rx.dp (fit_p hd)), ?_, fit_s hd, fit_s he, ?_⟩
  · cases ry with
    | lst h r => cases hs; exact .inl (Dp.mono same_hid (.lst (.inl h) (r.dp (fit_p he))))
    | tup h r => cases hs; exact .inr (Dp.mono same_hid (.tup h (r.dp (fit_p he))))
    | _ => cases hs
  · show Q (.bl (if false = true then _ else ((dpyAll ds).any fun z => PyData.eqv z (dpy d)))) H
    rw [if_neg Bool.false_ne_true, inD_py]
    exact q _ _ H (Same.refl _) (.bl _) k
theorem r2_notIn {K : PySem.W.Frag} {Φ : D → Prop} {d e : D} {ds : List D} (hs : seqD e = some ds) (hd : fit d = true) (he : fit (.lst ds) = true) (k : Φ (.bl (!inD d ds))) : R2D K (rInS K true) d e Φ := fun O H x y Q rx ry _ q => by
  refine ⟨dpy d, dpyAll ds, Dp.mono same_hid (rx.dp (fit_p hd)), ?_, fit_s hd, fit_s he, ?_⟩
  · cases ry with
    | lst h r => cases hs; exact .inl (Dp.mono same_hid (.lst (.inl h) (r.dp (fit_p he))))
    | tup h r => cases hs; exact .inr (Dp.mono same_hid (.tup h (r.dp (fit_p he))))
    | _ => cases hs
  · show Q (.bl (if true = true then !((dpyAll ds).any fun z => PyData.eqv z (dpy d)) else _)) H
    rw [if_pos rfl, inD_py]
    exact q _ _ H (Same.refl _) (.bl _) k

/-! ### subscripts, slices -/
def ixD : D → Int → Option D
  | .lst xs, i => atI xs i
  | .tup xs, i => atI xs i
  | .str z, i => if z.length ≤ sizeLine then (atI z.cps.toList i).map fun c => .str ⟨#[c]⟩ else none
  | _, _ => none
theorem atI_rp {K : PySem.W.Frag} {H : Hp} {vs : List V} {ds : List D} {i : Int} {d : D} (r : RpAll K H vs ds) (h : atI ds i = some d) : ∃ v, atI vs i = some v ∧ Rp K H v d := by
  unfold atI at h ⊢
  rw [r.length]
  cases e : ixN ds.length i with
  | none => rw [e] at h; cases h
  | some j =>
    rw [e] at h
    exact r.get' h
theorem r2_ix {K : PySem.W.Frag} {Φ : D → Prop} {d f : D} {i : Int} (h : ixD d i = some f) (k : Φ f) : R2D K (rIx K) d (.int i) Φ := fun O H x y Q rx ry _ q => by
  cases ry
  cases rx with
  | lst hs r =>
    obtain ⟨v, h1, h2⟩ := atI_rp r h
    exact .inl ⟨_, _, i, v, rfl, rfl, .inl (same_rd same_hid hs), h1, q v f H (Same.refl _) h2 k⟩
  | tup hs r =>
    obtain ⟨v, h1, h2⟩ := atI_rp r h
    exact .inr (.inl ⟨_, _, i, v, rfl, rfl, same_t same_hid hs, h1, q v f H (Same.refl _) h2 k⟩)
  | str z =>
    have h' : (if z.length ≤ sizeLine then (atI z.cps.toList i).map fun c => D.str ⟨#[c]⟩ else none) = some f := h
    by_cases hz : z.length ≤ sizeLine
    · rw [if_pos hz] at h'
      cases e : atI z.cps.toList i with
      | none => rw [e] at h'; cases h'
      | some c =>
        rw [e] at h'
        refine .inr (.inr ⟨z, i, c, rfl, rfl, hz, e, q _ f H (Same.refl _) ?_ k⟩)
        rw [← Option.some.inj h']
        exact .str _
    · rw [if_neg hz] at h'; cases h'
  | _ => cases h
theorem ixD_nat {xs : List D} {j : Nat} {d : D} (h : xs[j]? = some d) : ixD (.lst xs) (j : Int) = some d := atI_nat h
theorem ixD_natT {xs : List D} {j : Nat} {d : D} (h : xs[j]? = some d) : ixD (.tup xs) (j : Int) = some d := atI_nat h
section
variable {c : Ctx} {ρ : List SD} {n : Nat} {ta tb te : TE} {t u : TT} {as : TA} {Φ : Nat → D → Prop} {Ψ : Out} {ts us : TS}
theorem wo_none {Φ : Nat → Option Int → Prop} (k : Φ n none) : WO c tNoPart ρ n Φ := fun P L σ H Q E q => q none n H (Same.refl _) E.bag k
theorem wo_some {Φ : Nat → Option Int → Prop} (h : WE c te ρ n fun n1 d => ∃ i, d = .int i ∧ Φ n1 (some i)) : WO c (tPart te) ρ n Φ := fun P L σ H Q E q => by
  refine h P L σ H _ E fun x d n1 H1 s1 j1 r1 ⟨i, e, k⟩ => ?_
  subst e
  cases r1
  exact ⟨i, rfl, q (some i) n1 H1 s1 j1 k⟩
def rSlS3 (K : PySem.W.Frag) : V → Option Int → Option Int → Hp → VK → Prop := fun x lo hi H Q => rSlL K x lo hi H Q ∨ rSlA K x lo hi H Q ∨ rSlS x lo hi H Q
theorem sl_seq {X : Cx} : SlR X (rSlS3 X.K) := by
  intro pins s σ H x v vl vu lo hi sl Q I rx hs pl pu h
  rcases h with h | h | h
  · exact sl_list pins s σ H x v vl vu lo hi sl Q I rx hs pl pu h
  · exact sl_tupA pins s σ H x v vl vu lo hi sl Q I rx hs pl pu h
  · exact sl_str pins s σ H x v vl vu lo hi sl Q I rx hs pl pu h
def cutD (xs : List D) (lo hi : Option Int) : List D := (xs.drop (HT.sIx xs.length 0 lo)).take (HT.sIx xs.length xs.length hi - HT.sIx xs.length 0 lo)
def slD (d : D) (lo hi : Option Int) : Option D := match d with
  | .lst xs => some (.lst (cutD xs lo hi))
  | .tup xs => some (.tup (cutD xs lo hi))
  | .str z => if z.length ≤ sizeLine then some (.str (cutS z lo hi)) else none
  | _ => none
theorem RpAll.cut {K : PySem.W.Frag} {H : Hp} {vs : List V} {ds : List D} (r : RpAll K H vs ds) (lo hi : Option Int) : RpAll K H (cutV vs lo hi) (cutD ds lo hi) := by
  unfold cutV cutD
  rw [r.length]
  exact (r.drop _).take _
theorem cutD_whole {xs : List D} {lo hi : Option Int} (h : HT.sIx xs.length 0 lo = 0 ∧ HT.sIx xs.length xs.length hi = xs.length) : cutD xs lo hi = xs := by
  unfold cutD
  rw [h.1, h.2]
  simp
theorem we_sl {tl th : TO} (h : WE c te ρ n fun n1 d => WO c tl ρ n1 fun n2 lo => WO c th ρ n2 fun n3 hi => ∃ f, slD d lo hi = some f ∧ Φ n3 f) : WE c (tSl (rSlS3 c.K) te tl th) ρ n Φ := fun P L σ H Q E q => by
  refine h P L σ H _ E fun x d n1 H1 s1 j1 r1 h1 => ?_
  have E1 := E.step s1 j1
  refine h1 P L σ H1 _ E1 fun lo n2 H2 s2 j2 h2 => ?_
  have E2 := E1.step s2 j2
  refine h2 P L σ H2 _ E2 fun hi n3 H3 s3 j3 ⟨f, e, k⟩ => ?_
  have E3 := E2.step s3 j3
  have r3 := (r1.mono (E1.sameLO s2)).mono (E2.sameLO s3)
  have s := (s1.trans s2).trans s3
  cases r3 with
  | @lst a xs ds hs r =>
    cases e
    refine .inl ⟨_, _, rfl, .inl (same_rd same_hid hs), fun p hp => ?_⟩
    have z := E3.newT (o := .lst (cutV xs lo hi)) hp
    exact q _ _ n3 _ (s.trans z.1) z.2.1 (.lst (.inl (hid_at z.2.2)) ((r.cut lo hi).mono (rp_upd (K := c.K) hp))) k
  | @tup a xs ds hs r =>
    cases e
    refine .inr (.inl ⟨_, _, rfl, same_t same_hid hs, fun hw => ?_, fun hw p hp => ?_⟩)
    · rw [r.length] at hw
      rw [cutD_whole hw] at k
      exact q _ _ n3 _ s j3 (.tup hs r) k
    · have z := E3.newT (o := .tup (cutV xs lo hi)) hp
      exact q _ _ n3 _ (s.trans z.1) z.2.1 (.tup (.inl (.inl (hid_at z.2.2))) ((r.cut lo hi).mono (rp_upd (K := c.K) hp))) k
  | str z =>
    have e' : (if z.length ≤ sizeLine then some (D.str (cutS z lo hi)) else none) = some f := e
    by_cases hz : z.length ≤ sizeLine
    · rw [if_pos hz] at e'
      cases e'
      exact .inr (.inr ⟨z, rfl, hz, q _ _ n3 _ s j3 (.str _) k⟩)
    · rw [if_neg hz] at e'; cases e'
  | _ => cases e
end

/-! ### + -/
section
variable {X : Cx}
theorem inv_rdL {pins : List (Addr × Obj)} {σ : St} {H : Hp} {s : Shared} {a : Addr} {xs : List V} (I : Inv X pins σ H s) (h : Rd H a (.lst xs)) : ∃ (its : List Value) (n : Nat), Vals xs its ∧ s.heap.get? a = some { cls := .type "list", data := .seq its.toArray n } ∧ xs.length ≤ sizeLine := by
  obtain ⟨z, its, n, r, e⟩ := h.ok I.hok
  exact ⟨its, n, r, e, z⟩
/-- list + list, whatever is read -/
def rCatL : R2 := fun x y H Q => ∃ l b xs zs, x = .ref l ∧ y = .ref b ∧ Rd H l (.lst xs) ∧ Rd H b (.lst zs) ∧ xs.length + zs.length ≤ sizeLine ∧ ∀ p, H p = none → Q (.ref p) (upd H p (.lst (xs ++ zs)))
theorem op_catL : OpR X (binaryOp .Add) rCatL := by
  intro pins s σ H x y v u Q I rx ry h
  obtain ⟨l, b, xs, zs, rfl, rfl, hH, hB, hz, q⟩ := h
  cases rx
  cases ry
  obtain ⟨its, n, r, e, z⟩ := inv_rdL I hH
  obtain ⟨its2, n2, r2, e2, z2⟩ := inv_rdL I hB
  have h1 := r.length
  have h2 := r2.length
  refine PySem.P.add_list e e2 ?_ (by rw [List.size_toArray, List.size_toArray]; omega)
  have ea : its.toArray ++ its2.toArray = (its ++ its2).toArray := by simp
  rw [ea]
  exact ⟨.ref _, _, I.lnew (t' := s.toks) (r.append r2) (by rw [List.length_append]; omega), rfl, q _ I.fresh⟩
def rAddD (K : PySem.W.Frag) : R2 := fun x y H Q => rI0 (fun i j => .int (i + j)) x y H Q ∨ (∃ i j, x = .str i ∧ y = .str j ∧ i.length + j.length ≤ sizeLine ∧ Q (.str (i ++ j)) H) ∨ rCatA K x y H Q ∨ rCatL x y H Q
theorem op_addD : OpR X (binaryOp .Add) (rAddD X.K) := op_add.or (op_add_str.or (op_catA.or op_catL))
end
def addD : D → D → Option D
  | .int i, .int j => some (.int (i + j))
  | .str s, .str t => if s.length + t.length ≤ sizeLine then some (.str (s ++ t)) else none
  | .lst a, .lst b => if a.length + b.length ≤ sizeLine then some (.lst (a ++ b)) else none
  | .tup a, .tup b => if a.length + b.length ≤ sizeLine then some (.tup (a ++ b)) else none
  | _, _ => none
theorem r2_add {K : PySem.W.Frag} {Φ : D → Prop} {d e f : D} (h : addD d e = some f) (k : Φ f) : R2D K (rAddD K) d e Φ := fun O H x y Q rx ry no q => by
  cases rx with
  | int i =>
    cases ry with
    | int j => cases h; exact .inl ⟨i, j, rfl, rfl, q _ _ H (Same.refl _) (.int _) k⟩
    | _ => cases h
  | str i =>
    cases ry with
    | str j =>
      have h' : (if i.length + j.length ≤ sizeLine then some (D.str (i ++ j)) else none) = some f := h
      by_cases hz : i.length + j.length ≤ sizeLine
      · rw [if_pos hz] at h'
        cases h'
        exact .inr (.inl ⟨i, j, rfl, rfl, hz, q _ _ H (Same.refl _) (.str _) k⟩)
      · rw [if_neg hz] at h'; cases h'
    | _ => cases h
  | @lst a xs ds hs r =>
    cases ry with
    | @lst b ys es hs2 r2 =>
      have h' : (if ds.length + es.length ≤ sizeLine then some (D.lst (ds ++ es)) else none) = some f := h
      by_cases hz : ds.length + es.length ≤ sizeLine
      · rw [if_pos hz] at h'
        cases h'
        refine .inr (.inr (.inr ⟨a, b, xs, ys, rfl, rfl, same_rd same_hid hs, same_rd same_hid hs2, by rw [r.length, r2.length]; exact hz, fun p hp => ?_⟩))
        exact q _ _ _ (same_upd_new hp) (.lst (.inl (hid_at (no p hp))) ((r.append r2).mono (rp_upd (K := K) hp))) k
      · rw [if_neg hz] at h'; cases h'
    | _ => cases h
  | @tup a xs ds hs r =>
    cases ry with
    | @tup b ys es hs2 r2 =>
      have h' : (if ds.length + es.length ≤ sizeLine then some (D.tup (ds ++ es)) else none) = some f := h
      by_cases hz : ds.length + es.length ≤ sizeLine
      · rw [if_pos hz] at h'
        cases h'
        refine .inr (.inr (.inl ⟨a, b, xs, ys, rfl, rfl, same_t same_hid hs, same_t same_hid hs2, by rw [r.length, r2.length]; exact hz, fun e => ?_, fun e1 e2 => ?_, fun _ _ p hp => ?_⟩))
        · subst e
          cases r
          exact q _ _ H (Same.refl _) (.tup hs2 r2) k
        · subst e2
          cases r2
          rw [List.append_nil] at k
          exact q _ _ H (Same.refl _) (.tup hs r) k
        · exact q _ _ _ (same_upd_new hp) (.tup (.inl (.inl (hid_at (no p hp)))) ((r.append r2).mono (rp_upd (K := K) hp))) k
      · rw [if_neg hz] at h'; cases h'
    | _ => cases h
  | _ => cases h
end L3
/-! L3e: calls of built-ins over data; a def's promise over data. -/
namespace L3
open PySem L2

/-! ### len, list, tuple, int, abs -/
section
variable {X : Cx}
def rLenD (K : PySem.W.Frag) : List V → Hp → VK → Prop := fun xs H Q => (∃ p ys, xs = [.ref p] ∧ (SqL K H p ys ∨ SqT K H p ys) ∧ Q (.int ys.length) H) ∨ ∃ z, xs = [.str z] ∧ z.length ≤ sizeLine ∧ Q (.int z.length) H
theorem call_lenX : CallR X (.builtin "len") (rLenD X.K) := call_len_seq.or call_len_str
def rListD (K : PySem.W.Frag) : List V → Hp → VK → Prop := fun xs H Q => ∃ p ys, xs = [.ref p] ∧ (SqL K H p ys ∨ SqT K H p ys) ∧ ∀ l, H l = none → Q (.ref l) (upd H l (.lst ys))
theorem call_listX : CallR X (.type "list") (rListD X.K) := call_list_of
def rTupD (K : PySem.W.Frag) : List V → Hp → VK → Prop := fun xs H Q => ∃ p ys, xs = [.ref p] ∧ ((SqL K H p ys ∧ ∀ l, H l = none → Q (.ref l) (upd H l (.tup ys))) ∨ (SqT K H p ys ∧ Q (.ref p) H))
theorem call_tupX : CallR X (.type "tuple") (rTupD X.K) := call_tuple_of
def rIntD : List V → Hp → VK → Prop := fun xs H Q => (∃ i, xs = [.int i] ∧ Q (.int i) H) ∨ ∃ k, xs = [.bl k] ∧ Q (.int (if k then 1 else 0)) H
theorem call_intX : CallR X (.type "int") rIntD := call_int1
def rAbsD : List V → Hp → VK → Prop := fun xs H Q => ∃ i, xs = [.int i] ∧ Q (.int (if i < 0 then -i else i)) H
theorem call_absX : CallR X (.builtin "abs") rAbsD := call_abs
end
theorem RpAll.one {K : PySem.W.Frag} {H : Hp} {vs : List V} {d : D} (r : RpAll K H vs [d]) : ∃ v, vs = [v] ∧ Rp K H v d := by
  cases r with
  | cons h t => cases t; exact ⟨_, rfl, h⟩
theorem RpAll.two {K : PySem.W.Frag} {H : Hp} {vs : List V} {d e : D} (r : RpAll K H vs [d, e]) : ∃ v u, vs = [v, u] ∧ Rp K H v d ∧ Rp K H u e := by
  cases r with
  | cons h t =>
    obtain ⟨u, e, h2⟩ := t.one
    exact ⟨_, u, by rw [e], h, h2⟩
section
variable {K : PySem.W.Frag} {Φ : D → Prop}
def lenD : D → Option Int
  | .lst xs => some xs.length
  | .tup xs => some xs.length
  | .str z => if z.length ≤ sizeLine then some z.length else none
  | _ => none
theorem rc_len {d : D} {m : Int} (h : lenD d = some m) (k : Φ (.int m)) : RCD K (rLenD K) [d] Φ := fun O H xs Q rs no q => by
  obtain ⟨v, rfl, r⟩ := rs.one
  cases r with
  | @lst a ys ds hs ha =>
    refine .inl ⟨a, ys, rfl, .inl (.inl (same_rd same_hid hs)), q _ _ H (Same.refl _) (.int _) ?_⟩
    rw [ha.length, Option.some.inj (show some ((ds.length : Nat) : Int) = some m from h)]
    exact k
  | @tup a ys ds hs ha =>
    refine .inl ⟨a, ys, rfl, .inr (same_t same_hid hs), q _ _ H (Same.refl _) (.int _) ?_⟩
    rw [ha.length, Option.some.inj (show some ((ds.length : Nat) : Int) = some m from h)]
    exact k
  | str z =>
    have h' : (if z.length ≤ sizeLine then some ((z.length : Nat) : Int) else none) = some m := h
    by_cases hz : z.length ≤ sizeLine
    · rw [if_pos hz] at h'
      refine .inr ⟨z, rfl, hz, q _ _ H (Same.refl _) (.int _) ?_⟩
      rw [Option.some.inj h']
      exact k
    · rw [if_neg hz] at h'; cases h'
  | _ => cases h
theorem rc_list {d : D} {ds : List D} (h : seqD d = some ds) (k : Φ (.lst ds)) : RCD K (rListD K) [d] Φ := fun O H xs Q rs no q => by
  obtain ⟨v, rfl, r⟩ := rs.one
  cases r with
  | @lst a ys ds hs ha =>
    cases h
    exact ⟨a, ys, rfl, .inl (.inl (same_rd same_hid hs)), fun l hl => q _ _ _ (same_upd_new hl) (.lst (.inl (hid_at (no l hl))) (ha.mono (rp_upd (K := K) hl))) k⟩
  | @tup a ys ds hs ha =>
    cases h
    exact ⟨a, ys, rfl, .inr (same_t same_hid hs), fun l hl => q _ _ _ (same_upd_new hl) (.lst (.inl (hid_at (no l hl))) (ha.mono (rp_upd (K := K) hl))) k⟩
  | _ => cases h
theorem rc_tup {d : D} {ds : List D} (h : seqD d = some ds) (k : Φ (.tup ds)) : RCD K (rTupD K) [d] Φ := fun O H xs Q rs no q => by
  obtain ⟨v, rfl, r⟩ := rs.one
  cases r with
  | @lst a ys ds hs ha =>
    cases h
    exact ⟨a, ys, rfl, .inl ⟨.inl (same_rd same_hid hs), fun l hl => q _ _ _ (same_upd_new hl) (.tup (.inl (.inl (hid_at (no l hl)))) (ha.mono (rp_upd (K := K) hl))) k⟩⟩
  | @tup a ys ds hs ha =>
    cases h
    exact ⟨a, ys, rfl, .inr ⟨same_t same_hid hs, q _ _ H (Same.refl _) (.tup hs ha) k⟩⟩
  | _ => cases h
theorem rc_int {i : Int} (k : Φ (.int i)) : RCD K rIntD [.int i] Φ := fun O H xs Q rs no q => by
  obtain ⟨v, rfl, r⟩ := rs.one
  cases r
  exact .inl ⟨i, rfl, q _ _ H (Same.refl _) (.int _) k⟩
theorem rc_intB {b : Bool} (k : Φ (.int (if b then 1 else 0))) : RCD K rIntD [.bl b] Φ := fun O H xs Q rs no q => by
  obtain ⟨v, rfl, r⟩ := rs.one
  cases r
  exact .inr ⟨b, rfl, q _ _ H (Same.refl _) (.int _) k⟩
theorem rc_abs {i : Int} (k : Φ (.int (if i < 0 then -i else i))) : RCD K rAbsD [.int i] Φ := fun O H xs Q rs no q => by
  obtain ⟨v, rfl, r⟩ := rs.one
  cases r
  exact ⟨i, rfl, q _ _ H (Same.refl _) (.int _) k⟩
/-- sum, max, min of a list of ints; any, all of a list of truths -/
theorem rc_sum {ns : List Int} (k : Φ (.int ns.sum)) : RCD K (rSum K) [.lst (ns.map D.int)] Φ := fun O H xs Q rs no q => by
  obtain ⟨v, rfl, r⟩ := rs.one
  cases r with
  | @lst a ys ds hs ha =>
    have e := ha.ints
    subst e
    exact ⟨a, ns, rfl, .inl (same_rd same_hid hs), q _ _ H (Same.refl _) (.int _) k⟩
theorem rc_max {ns : List Int} (hn : 0 < ns.length) (k : ∀ m, m ∈ ns → (∀ y ∈ ns, y ≤ m) → Φ (.int m)) : RCD K (rMax K) [.lst (ns.map D.int)] Φ := fun O H xs Q rs no q => by
  obtain ⟨v, rfl, r⟩ := rs.one
  cases r with
  | @lst a ys ds hs ha =>
    have e := ha.ints
    subst e
    exact ⟨a, ns, rfl, .inl (same_rd same_hid hs), hn, fun m h1 h2 => q _ _ H (Same.refl _) (.int _) (k m h1 h2)⟩
theorem rc_min {ns : List Int} (hn : 0 < ns.length) (k : ∀ m, m ∈ ns → (∀ y ∈ ns, m ≤ y) → Φ (.int m)) : RCD K (rMin K) [.lst (ns.map D.int)] Φ := fun O H xs Q rs no q => by
  obtain ⟨v, rfl, r⟩ := rs.one
  cases r with
  | @lst a ys ds hs ha =>
    have e := ha.ints
    subst e
    exact ⟨a, ns, rfl, .inl (same_rd same_hid hs), hn, fun m h1 h2 => q _ _ H (Same.refl _) (.int _) (k m h1 h2)⟩
theorem RpAll.bls {H : Hp} : ∀ {vs : List V} {bs : List Bool}, RpAll K H vs (bs.map D.bl) → vs = bs.map V.bl
  | _, [], h => by cases h; rfl
  | _, n :: ns, h => by
    cases h with
    | cons h r => cases h; rw [RpAll.bls r]; rfl
theorem rc_any {bs : List Bool} (k : Φ (.bl (bs.any id))) : RCD K (rAny K) [.lst (bs.map D.bl)] Φ := fun O H xs Q rs no q => by
  obtain ⟨v, rfl, r⟩ := rs.one
  cases r with
  | @lst a ys ds hs ha =>
    have e := ha.bls
    subst e
    exact ⟨a, bs, rfl, .inl (same_rd same_hid hs), q _ _ H (Same.refl _) (.bl _) k⟩
theorem rc_all {bs : List Bool} (k : Φ (.bl (bs.all id))) : RCD K (rAll K) [.lst (bs.map D.bl)] Φ := fun O H xs Q rs no q => by
  obtain ⟨v, rfl, r⟩ := rs.one
  cases r with
  | @lst a ys ds hs ha =>
    have e := ha.bls
    subst e
    exact ⟨a, bs, rfl, .inl (same_rd same_hid hs), q _ _ H (Same.refl _) (.bl _) k⟩

/-! ### isinstance with built-in types -/
def tyD : D → Option String
  | .non => some "NoneType"
  | .bl _ => some "bool"
  | .int _ => some "int"
  | .str _ => some "str"
  | .lst _ => some "list"
  | .tup _ => some "tuple"
  | _ => none
theorem tyD_X {H : Hp} {O : List Addr} {v : V} {d : D} {T : String} (r : Rp K (hid O H) v d) (h : tyD d = some T) : TyX K H v (.type T) := by
  cases r with
  | non => cases h; exact .base .non
  | bl b => cases h; exact .base (.bl b)
  | int i => cases h; exact .base (.int i)
  | str x => cases h; exact .base (.str x)
  | lst hs ha =>
    cases h
    rcases same_rd same_hid hs with e | ⟨o, e⟩
    · exact .base (.lst e)
    · exact .base (.frz e)
  | tup hs ha =>
    cases h
    rcases same_t same_hid hs with (e | ⟨o, e⟩) | ⟨o, its, n, hk, hc, _⟩
    · exact .base (.tup e)
    · exact .fTuple e
    · exact .kTuple hk hc
  | _ => cases h
theorem rc_isi {d : D} {T U : String} {b : Bool} (h : tyD d = some T) (hk : kitB T U = some b) (k : Φ (.bl b)) : RCD K (rIsi K) [d, .ty U] Φ := fun O H xs Q rs no q => by
  obtain ⟨v, u, rfl, r1, r2⟩ := rs.two
  cases r2
  exact ⟨v, .ty U, .type T, .type U, b, rfl, .ty U, tyD_X r1 h, kit_ty hk, q _ _ H (Same.refl _) (.bl _) k⟩
end

/-! ### sorted of data -/
section
variable {X : Cx}
abbrev LeD : D → D → Bool := PySem.W.dataLe false dpy
def sortD (ds : List D) : List D := ds.mergeSort LeD
def rSortD (K : PySem.W.Frag) : List V → Hp → VK → Prop := fun vs H Q => ∃ (O : List Addr) (v : V) (ds : List D), vs = [v] ∧ Rp K (hid O H) v (.lst ds) ∧ plainAll ds = true ∧ PySem.W.AllAlike (ds.map dpy) ∧ PySem.W.Sortable (ds.map dpy) ∧ ds.length ≤ sizeLine ∧
  (∀ d ∈ ds, (dpy d).depth ≤ 50) ∧ ∀ l ys, H l = none → RpAll K (hid O H) ys (sortD ds) → Q (.ref l) (upd H l (.lst ys))
theorem plainAll_mem : ∀ {ds : List D} {d : D}, plainAll ds = true → d ∈ ds → plain d = true
  | e :: ds, d, h, hd => by
    have h' : (plain e && plainAll ds) = true := h
    rw [Bool.and_eq_true] at h'
    rcases List.mem_cons.mp hd with q | q
    · rw [q]; exact h'.1
    · exact plainAll_mem h'.2 q
theorem each_rp {K : PySem.W.Frag} {H : Hp} : ∀ {vs : List V} {us : List Value} {ds : List D}, Vals vs us → RpAll K H vs ds → PySem.W.EachIs (fun (u : Value) (d : D) => ∃ v, RelV v u ∧ Rp K H v d) us ds
  | _, _, _, .nil, .nil => .nil
  | _, _, _, .cons r t, .cons h s => .cons ⟨_, r, h⟩ (each_rp t s)
theorem rp_each {K : PySem.W.Frag} {H : Hp} : ∀ {us : List Value} {ds : List D}, PySem.W.EachIs (fun (u : Value) (d : D) => ∃ v, RelV v u ∧ Rp K H v d) us ds → ∃ vs, Vals vs us ∧ RpAll K H vs ds
  | _, _, .nil => ⟨[], .nil, .nil⟩
  | _, _, .cons ⟨v, r, h⟩ t => by
    obtain ⟨vs, h1, h2⟩ := rp_each t
    exact ⟨v :: vs, .cons r h1, .cons h h2⟩
theorem cr_sortD (hu : X.A.units + 64 < cLine) : CallR X (.builtin "sorted") (rSortD X.K) := by
  intro pins s σ H vs us Q I r h
  obtain ⟨O, v, ds, rfl, rv, hp, hal, hk, hL, hdep, q⟩ := h
  cases rv with
  | @lst a xs _ hs ha =>
    rw [Vals.ref1 r]
    obtain ⟨its, n, rv, e, hz⟩ := inv_rdL I (same_rd same_hid hs)
    have el := each_rp rv ha
    have er : PySem.W.EachIs (fun (u : Value) (d : D) => ∃ as, Reads s.heap u (dpy d) as) its ds := by
      refine (PySem.W.each_mem el).mono ?_
      rintro u d ⟨⟨v, r1, r2⟩, hd⟩
      exact Dp.reads I (dpy d) v u (Dp.mono same_hid (r2.dp (plainAll_mem hp hd))) r1
    refine PySem.W.sorted_data (s := s) ⟨_, e, rfl, n, rfl⟩ el er hal hk hL (fun d hd => by have := hdep d hd; omega) fun out ho eo => ?_
    obtain ⟨ys, h1, h2⟩ := rp_each eo
    obtain ⟨ep, he'⟩ := PyProof.Rows.sortedAll_at s.heap its out.toArray
    have hlen : ys.length ≤ sizeLine := by rw [h1.length, ho]; exact hL
    exact ⟨.ref _, upd H (s.heap.objs.size + 1) (.lst ys), I.laid (t' := s.toks) (fun _ _ => PyProof.Rows.sortedAll_old) (Nat.le_succ _) ⟨hlen, out, ep, h1, he'⟩, rfl, q _ ys (I.hok.fresh (Nat.le_succ _)) h2⟩
end
theorem rc_sort {K : PySem.W.Frag} {Φ : D → Prop} {ds : List D} (hp : plainAll ds = true) (hal : PySem.W.AllAlike (ds.map dpy)) (hk : PySem.W.Sortable (ds.map dpy)) (hL : ds.length ≤ sizeLine) (hd : ∀ d ∈ ds, (dpy d).depth ≤ 50) (k : Φ (.lst (sortD ds))) : RCD K (rSortD K) [.lst ds] Φ := fun O H xs Q rs no q => by
  obtain ⟨v, rfl, r⟩ := rs.one
  exact ⟨O, v, ds, rfl, r, hp, hal, hk, hL, hd, fun l ys hl h => q _ _ _ (same_upd_new hl) (.lst (.inl (hid_at (no l hl))) (h.mono (rp_upd (K := K) hl))) k⟩
end L3
/-! L3f: a def's promise over data; methods of own lists. -/
namespace L3
open PySem L2

/-- the slots at a def's entry -/
def rho (N : List Str) (ds : List D) : List SD := ds.map SD.val ++ List.replicate (N.length - ds.length) .un
theorem slots_un {pr : Program} {wd : World} {K : PySem.W.Frag} {O : List Addr} {H : Hp} : ∀ m : Nat, Slots pr wd K O H (List.replicate m none) (List.replicate m .un) []
  | 0 => .nil
  | m + 1 => .un (slots_un m)
theorem slots_start {pr : Program} {wd : World} {K : PySem.W.Frag} {O : List Addr} {H : Hp} {m : Nat} : ∀ {vs : List V} {ds : List D}, RpAll K (hid O H) vs ds → Slots pr wd K O H (vs.map some ++ List.replicate m none) (ds.map SD.val ++ List.replicate m .un) []
  | _, _, .nil => slots_un m
  | _, _, .cons h r => .val h (slots_start r)
section
variable {P : Program} {w : World} {K : PySem.W.Frag} {mg : Str → Option Value} {base : Heap}
/-- THE RULE: a def by its body, over data -/
theorem fn_D {x qual : Str} {st : Stmt} {f : Addr} {fd : FuncData} {N ps : List Str} {k : Nat} {S : Spec} (F : Fun K x qual st f fd) (sc : FnScope N ps (defScope st))
    (len : ∀ bag n ds Φ, S bag n ds Φ → ds.length = ps.length)
    (body : ∀ (cdv : Value) (A : Around) (outer : List PySem.Env) (s : Shared) (H : Hp) (E : XK) (O : List Addr) (bag : Option (Addr × Addr)) (n : Nat) (ds : List D) (Φ : Nat → D → Prop), Room k (A.deeper (PyProof.Rows.envOfC qual (defScope st) s.heap.objs.size f cdv)) → S bag n ds Φ →
      ∃ t, PSs (cxOf CX0 P w K mg base N qual (defScope st) f cdv A outer s H E).nox (defBody st) t ∧ WS ⟨P, w, K, O, bag, H⟩ t (rho N ds) n { nx := fun n' _ => Φ n' .non, rt := Φ }) :
    FnOk P w K mg base CX0 (k + 1) f fd ps (spD K S) := by
  refine F.ok sc (fun vs H Q E h => ?_) (fun cdv A outer s H vs Q E hr h => ?_)
  · obtain ⟨O, bag, n, ds, Φ, _, _, r, hS, _⟩ := h
    rw [r.length]; exact len bag n ds Φ hS
  · obtain ⟨O, bag, n, ds, Φ, hb, hO, r, hS, q⟩ := h
    obtain ⟨t, ht, W⟩ := body cdv A outer s H E O bag n ds Φ hr hS
    refine ⟨t, ht, W (fun _ => none) [] _ H _ ?_ ?_⟩
    · have e : L2.start N vs = vs.map some ++ List.replicate (N.length - ds.length) none := by unfold L2.start; rw [r.length]
      exact { nd := List.nodup_nil, fresh := (fun l hl => nomatch hl), slots := ⟨[], by rw [e]; exact slots_start r, List.Sublist.refl _⟩, lst := (fun l hl => nomatch hl), bag := fun b q e => (hb b q e).1, base := Same.refl _,
              pers := (fun _ _ e => nomatch e), bO := fun b q e => (hb b q e).2, al := hO }
    · exact { nx := fun L n' H' σ ρ E k => q .non .non n' H' E.base (fun b q e => E.bag b q e) .non k,
              rt := fun v d n' H' s j r k => q v d n' H' s j r k, bk := fun _ _ _ _ _ _ k => k.elim, ct := fun _ _ _ _ _ _ k => k.elim }
end

/-! ### an own list's methods -/
section
variable {c : Ctx} {ρ : List SD} {n : Nat} {ta tb te : TE} {t u : TT} {as : TA} {Φ : Nat → D → Prop} {Ψ : Out} {ts us : TS}
/-- at an own slot the list is another one -/
theorem Slots.own_at {pr : Program} {wd : World} {K : PySem.W.Frag} {O : List Addr} {H : Hp} {ds es : List D} : ∀ {σ : List (Option V)} {ρ : List SD} {L : List Addr} {i : Nat}, Slots pr wd K O H σ ρ L → L.Nodup → ρ[i]? = some (.own ds) → ∃ l xs, σ[i]? = some (some (.ref l)) ∧ l ∈ L ∧ H l = some (.lst xs) ∧ RpAll K (hid O H) xs ds ∧
    ∀ (ys : List V), RpAll K (hid O H) ys es → hid O (upd H l (.lst ys)) = hid O H → Slots pr wd K O (upd H l (.lst ys)) σ (ρ.set i (.own es)) L
  | _, _, _, _, .nil, _, e => by simp at e
  | _, _, _, 0, .un _, _, e => by simp at e
  | _, _, _, i + 1, .un s, nd, e => by
    obtain ⟨l, xs, h1, h2, h3, h4, h5⟩ := Slots.own_at (i := i) s nd (by simpa using e)
    exact ⟨l, xs, by simpa using h1, h2, h3, h4, fun ys a b => .un (h5 ys a b)⟩
  | _, _, _, 0, .val _ _, _, e => by simp at e
  | _, _, _, i + 1, .val r s, nd, e => by
    obtain ⟨l, xs, h1, h2, h3, h4, h5⟩ := Slots.own_at (i := i) s nd (by simpa using e)
    exact ⟨l, xs, by simpa using h1, h2, h3, h4, fun ys a b => .val (by rw [b]; exact r) (h5 ys a b)⟩
  | _, _, _, 0, .own h r s, nd, e => by
    simp at e
    subst e
    exact ⟨_, _, rfl, List.mem_cons_self, h, r, fun ys a b => .own upd_same (by rw [b]; exact a) (s.move (fun l hl => upd_ne fun e => (List.nodup_cons.mp nd).1 (by rw [← e]; exact hl)) (by rw [b]; exact Same.refl _))⟩
  | _, _, _, 0, .dic _ _, _, e => by simp at e
  | _, _, _, 0, .dk _ _, _, e => by simp at e
  | _, _, _, 0, .tw _ _, _, e => by simp at e
  | _, _, _, i + 1, .dic h s, nd, e => by
    obtain ⟨l, xs, h1, h2, h3, h4, h5⟩ := Slots.own_at (i := i) s (List.nodup_cons.mp nd).2 (by simpa using e)
    exact ⟨l, xs, by simpa using h1, List.mem_cons_of_mem _ h2, h3, h4, fun ys a b => .dic (h.move (upd_ne fun e => (List.nodup_cons.mp nd).1 (by rw [e]; exact h2)) (by rw [b]; exact Same.refl _)) (h5 ys a b)⟩
  | _, _, _, i + 1, .dk h s, nd, e => by
    obtain ⟨l, xs, h1, h2, h3, h4, h5⟩ := Slots.own_at (i := i) s (List.nodup_cons.mp nd).2 (by simpa using e)
    exact ⟨l, xs, by simpa using h1, List.mem_cons_of_mem _ h2, h3, h4, fun ys a b => .dk (h.move (upd_ne fun e => (List.nodup_cons.mp nd).1 (by rw [e]; exact h2)) (by rw [b]; exact Same.refl _)) (h5 ys a b)⟩
  | _, _, _, i + 1, .tw h s, nd, e => by
    obtain ⟨l, xs, h1, h2, h3, h4, h5⟩ := Slots.own_at (i := i) s (List.nodup_cons.mp nd).2 (by simpa using e)
    exact ⟨l, xs, by simpa using h1, List.mem_cons_of_mem _ h2, h3, h4, fun ys a b => .tw (h.move (upd_ne fun e => (List.nodup_cons.mp nd).1 (by rw [e]; exact h2)) (by rw [b]; exact Same.refl _)) (h5 ys a b)⟩
  | _, _, _, i + 1, .own h r s, nd, e => by
    obtain ⟨l, xs, h1, h2, h3, h4, h5⟩ := Slots.own_at (i := i) s (List.nodup_cons.mp nd).2 (by simpa using e)
    exact ⟨l, xs, by simpa using h1, List.mem_cons_of_mem _ h2, h3, h4, fun ys a b => .own ((upd_ne fun e => (List.nodup_cons.mp nd).1 (by rw [e]; exact h2)).trans h) (by rw [b]; exact r) (h5 ys a b)⟩
  | _, _, _, 0, .ot _ _ _, _, e => by simp at e
  | _, _, _, i + 1, .ot h q s, nd, e => by
    subst q
    obtain ⟨l, xs, h1, h2, h3, h4, h5⟩ := Slots.own_at (i := i) s (List.nodup_append.mp nd).2.1 (by simpa using e)
    exact ⟨l, xs, by simpa using h1, List.mem_append_right _ h2, h3, h4, fun ys a b => .ot (OT.mv _ h (fun x hx => upd_ne fun e => (List.nodup_append.mp nd).2.2 x hx _ h2 e) fun v d r => by rw [b]; exact r) rfl (h5 ys a b)⟩
theorem Env.own_at {P : Hp} {L : List Addr} {n : Nat} {H : Hp} {σ : List (Option V)} {i : Nat} {ds : List D} (E : Env c P L n H σ ρ) (h : ρ[i]? = some (.own ds)) : ∃ l xs, σ[i]? = some (some (.ref l)) ∧ H l = some (.lst xs) ∧ RpAll c.K (hid (L ++ c.O) H) xs ds ∧
    ∀ (ys : List V) (es : List D), RpAll c.K (hid (L ++ c.O) H) ys es → Env c P L n (upd H l (.lst ys)) σ (ρ.set i (.own es)) ∧ Same (hid c.B c.H0) (hid c.B (upd H l (.lst ys))) := by
  obtain ⟨Ls, sl, sb⟩ := E.slots
  have nd := sb.nodup E.nd
  obtain ⟨l, xs, h1, h2, h3, h4, _⟩ := sl.own_at (es := ds) nd h
  have lL := sb.subset h2
  have hm : l ∈ L ++ c.O := List.mem_append_left _ lL
  have hO : l ∉ c.O := (E.fresh l lL).2
  refine ⟨l, xs, h1, h3, h4, fun ys es hy => ?_⟩
  have bs : Same (hid c.B c.H0) (hid c.B (upd H l (.lst ys))) := same_upd_old (E.fresh l lL).1 E.base
  refine ⟨?_, bs⟩
  obtain ⟨l', xs', g1, g2, g3, g4, g5⟩ := sl.own_at (es := es) nd h
  rw [h1] at g1
  cases g1
  exact { nd := E.nd, fresh := E.fresh, slots := ⟨Ls, g5 ys hy (hid_upd_in hm), sb⟩,
          lst := fun a ha => by
            by_cases e : a = l
            · exact ⟨_, by rw [e, upd_same]⟩
            · rw [upd_ne e]; exact E.lst a ha,
          bag := fun b q hb => (E.bag b q hb).move (fun o h => by rw [upd_ne fun e : b = l => hO (e ▸ (E.bO b q hb).1)]; exact h) fun o h => by rw [upd_ne fun e : q = l => hO (e ▸ (E.bO b q hb).2.1)]; exact h,
          base := bs, pers := by rw [hid_upd_in hm]; exact E.pers, bO := E.bO,
          al := fun o ho => by rw [upd_ne fun e : o = l => hO (e ▸ ho)]; exact E.al o ho }
/-- x.append(e) -/
theorem ws_append {i : Nat} {ds : List D} (h0 : ρ[i]? = some (.own ds)) (h : WE c te ρ n fun n1 d => ds.length < sizeLine ∧ Ψ.nx n1 (ρ.set i (.own (ds ++ [d])))) : WS c (tDrop (tBM c.K "list" rAppend (tVar i) (tCons te tNil))) ρ n Ψ := fun P L σ H Dn E A => by
  obtain ⟨l, xs, h1, h2, h3, h4⟩ := E.own_at h0
  refine ⟨.ref l, h1, .inl ⟨rfl, xs, .inl (.inl h2)⟩, ?_⟩
  refine h P L σ H _ E fun v d n1 H1 s1 j1 r1 ⟨hz, k⟩ => ?_
  have E1 := E.step s1 j1
  obtain ⟨l', ys, g1, g2, g3, g4⟩ := E1.own_at h0
  rw [h1] at g1
  cases g1
  refine ⟨l, ys, v, rfl, rfl, g2, by rw [g3.length]; exact hz, ?_⟩
  exact A.nx L n1 _ σ _ (g4 (ys ++ [v]) (ds ++ [d]) (g3.append (.cons r1 .nil))).1 k
end
end L3
/-! L3g: the operators one by one; loops with a state; short forms. -/
namespace L3
open PySem L2
section
variable {K : PySem.W.Frag} {Φ : D → Prop} {i j : Int}
theorem r2_lt (k : Φ (.bl (decide (i < j)))) : R2D K (rI0 fun i j => .bl (decide (i < j))) (.int i) (.int j) Φ := r2_int0 (h := fun i j => .bl (decide (i < j))) (fun _ _ _ => .bl _) k
theorem r2_le (k : Φ (.bl (decide (i ≤ j)))) : R2D K (rI0 fun i j => .bl (decide (i ≤ j))) (.int i) (.int j) Φ := r2_int0 (h := fun i j => .bl (decide (i ≤ j))) (fun _ _ _ => .bl _) k
theorem r2_gt (k : Φ (.bl (decide (j < i)))) : R2D K (rI0 fun i j => .bl (decide (j < i))) (.int i) (.int j) Φ := r2_int0 (h := fun i j => .bl (decide (j < i))) (fun _ _ _ => .bl _) k
theorem r2_ge (k : Φ (.bl (decide (j ≤ i)))) : R2D K (rI0 fun i j => .bl (decide (j ≤ i))) (.int i) (.int j) Φ := r2_int0 (h := fun i j => .bl (decide (j ≤ i))) (fun _ _ _ => .bl _) k
theorem r2_sub (k : Φ (.int (i - j))) : R2D K (rI0 fun i j => .int (i - j)) (.int i) (.int j) Φ := r2_int0 (h := fun i j => .int (i - j)) (fun _ _ _ => .int _) k
theorem r2_addI (k : Φ (.int (i + j))) : R2D K (rAddD K) (.int i) (.int j) Φ := r2_add rfl k
theorem r2_mulW (hc : CMulW i j) (k : Φ (.int (i * j))) : R2D K (rI CMulW fun i j => .int (i * j)) (.int i) (.int j) Φ := r2_int (h := fun i j => .int (i * j)) (fun _ _ _ => .int _) hc k
theorem r2_mul (hc : CMul i j) (k : Φ (.int (i * j))) : R2D K (rI CMul fun i j => .int (i * j)) (.int i) (.int j) Φ := r2_int (h := fun i j => .int (i * j)) (fun _ _ _ => .int _) hc k
theorem r2_mod (hc : 0 < j) (k : Φ (.int (i % j))) : R2D K (rI (fun _ j => 0 < j) fun i j => .int (i % j)) (.int i) (.int j) Φ := r2_int (h := fun i j => .int (i % j)) (fun _ _ _ => .int _) hc k
theorem r2_fdivW (hc : CDivW i j) (k : Φ (.int (i / j))) : R2D K (rI CDivW fun i j => .int (i / j)) (.int i) (.int j) Φ := r2_int (h := fun i j => .int (i / j)) (fun _ _ _ => .int _) hc k
theorem r2_fdiv (hc : CDiv i j) (k : Φ (.int (i / j))) : R2D K (rI CDiv fun i j => .int (i / j)) (.int i) (.int j) Φ := r2_int (h := fun i j => .int (i / j)) (fun _ _ _ => .int _) hc k
theorem r2_pow (hc : CPow i j) (k : Φ (.int (i ^ j.toNat))) : R2D K (rI CPow fun i j => .int (i ^ j.toNat)) (.int i) (.int j) Φ := r2_int (h := fun i j => .int (i ^ j.toNat)) (fun _ _ _ => .int _) hc k
theorem r2_cat {a b : List D} (h : a.length + b.length ≤ 16777216) (k : Φ (.lst (a ++ b))) : R2D K (rAddD K) (.lst a) (.lst b) Φ := r2_add (if_pos (by rw [sizeLine_eq]; exact h)) k
theorem r2_catT {a b : List D} (h : a.length + b.length ≤ 16777216) (k : Φ (.tup (a ++ b))) : R2D K (rAddD K) (.tup a) (.tup b) Φ := r2_add (if_pos (by rw [sizeLine_eq]; exact h)) k
theorem r2_catS {a b : Str} (h : a.length + b.length ≤ 16777216) (k : Φ (.str (a ++ b))) : R2D K (rAddD K) (.str a) (.str b) Φ := r2_add (if_pos (by rw [sizeLine_eq]; exact h)) k
theorem r2_isN {d : D} (k : Φ (.bl (isNon d))) : R2D K rIsN d .non Φ := fun O H x y Q rx ry _ q => by
  cases ry
  exact ⟨rfl, by rw [isNon_V rx]; exact q _ _ H (Same.refl _) (.bl _) k⟩
theorem r2_notN {d : D} (k : Φ (.bl (!isNon d))) : R2D K rNotN d .non Φ := fun O H x y Q rx ry _ q => by
  cases ry
  exact ⟨rfl, by rw [isNon_V rx]; exact q _ _ H (Same.refl _) (.bl _) k⟩
theorem r2_eqI (k : Φ (.bl (decide (i = j)))) : R2D K (rEqD K) (.int i) (.int j) Φ := r2_eqD rfl rfl (by
  have e : eqD (.int i) (.int j) = decide (i = j) := by
    show (i == j) = decide (i = j)
    by_cases h : i = j <;> simp [h]
  rw [e]; exact k)
theorem r2_neI (k : Φ (.bl (!decide (i = j)))) : R2D K (rNeD K) (.int i) (.int j) Φ := r2_neD rfl rfl (by
  have e : eqD (.int i) (.int j) = decide (i = j) := by
    show (i == j) = decide (i = j)
    by_cases h : i = j <;> simp [h]
  rw [e]; exact k)
end
section
variable {c : Ctx} {ρ : List SD} {n : Nat} {ta tb te : TE} {t u : TT} {as : TA} {Φ : Nat → D → Prop} {Ψ : Out} {ts us : TS}
theorem itT {b : Bool} {A B : Prop} (h : b = true) (k : A) : if b = true then A else B := by rw [if_pos h]; exact k
theorem itF {b : Bool} {A B : Prop} (h : b = false) (k : B) : if b = true then A else B := by rw [if_neg (by rw [h]; exact Bool.false_ne_true)]; exact k
/-- an item of a mapped list -/
theorem map_at {α β : Type} {f : α → β} {l : List α} {i : Nat} {d : β} (h : (l.map f)[i]? = some d) : ∃ a, l[i]? = some a ∧ d = f a ∧ a ∈ l ∧ l.take (i + 1) = l.take i ++ [a] := by
  rw [List.getElem?_map] at h
  cases e : l[i]? with
  | none => rw [e] at h; cases h
  | some a =>
    rw [e] at h
    exact ⟨a, rfl, (Option.some.inj h).symm, List.mem_of_getElem? e, by rw [List.take_succ, e]; rfl⟩
theorem decT {p : Prop} [Decidable p] {A B : Prop} (h : p) (k : A) : if decide p = true then A else B := by rw [if_pos (decide_eq_true h)]; exact k
theorem decF {p : Prop} [Decidable p] {A B : Prop} (h : ¬ p) (k : B) : if decide p = true then A else B := by rw [if_neg (by simpa using h)]; exact k
theorem dec2 {p : Prop} [Decidable p] {A B : Prop} (h1 : p → A) (h2 : ¬ p → B) : if decide p = true then A else B := by
  by_cases h : p
  · exact decT h (h1 h)
  · exact decF h (h2 h)
theorem decN {p : Prop} [Decidable p] {A B : Prop} (h1 : ¬ p → A) (h2 : p → B) : if (!decide p) = true then A else B := by
  by_cases h : p
  · rw [if_neg (by simpa using h)]; exact h2 h
  · rw [if_pos (by simpa using h)]; exact h1 h
theorem boo2 {b : Bool} {A B : Prop} (h1 : b = true → A) (h2 : b = false → B) : if b = true then A else B := by
  cases b
  · rw [if_neg Bool.false_ne_true]; exact h2 rfl
  · rw [if_pos rfl]; exact h1 rfl
theorem booN {b : Bool} {A B : Prop} (h1 : b = false → A) (h2 : b = true → B) : if (!b) = true then A else B := by
  cases b with
  | false => show (if true = true then A else B); rw [if_pos rfl]; exact h1 rfl
  | true => show (if false = true then A else B); rw [if_neg Bool.false_ne_true]; exact h2 rfl
theorem filt_all {α : Type} (l : List α) : l.filter (fun _ => true) = l := by simp
/-- a comprehension as map and filter: f the element, p the test, of data that the turn knows -/
theorem wf_map {wi : TI} {g : TG} {vs : List Nat} {Φ : Nat → List D → Prop} (f : D → D) (p : D → Bool)
    (h : WI c wi ρ n fun n1 ds => ds.length ≤ 1000000 ∧ (∀ d ∈ ds, ∀ m, WG c (RW vs) g d (wipeR ρ vs) m fun ρ2 => WT c t ρ2 m fun m2 b => m2 = m ∧ b = p d ∧ (b = true → WE c te ρ2 m fun m3 y => m3 = m ∧ y = f d)) ∧ Φ n1 ((ds.filter p).map f)) : WF c (tLc wi g t te vs) ρ n Φ := by
  refine wf_lc ?_
  intro P L σ H R E q
  refine h P L σ H R E fun J ds n' H' s j it ⟨hz, hs, kk⟩ => q J ds n' H' s j it ?_
  refine ⟨fun k m acc => m = n' ∧ acc = ((ds.take k).filter p).map f, ⟨rfl, rfl⟩, ?_, ?_⟩
  · rintro k m acc d hd ⟨e1, e2⟩
    subst e1; subst e2
    have hk : k < ds.length := (List.getElem?_eq_some_iff.mp hd).1
    have ek : ds[k] = d := (List.getElem?_eq_some_iff.mp hd).2
    have tk : ds.take (k + 1) = ds.take k ++ [d] := by rw [List.take_succ, hd]; rfl
    intro P2 L2 σ2 H2 v2 Q2 E2 r2 q2
    refine hs d (List.mem_of_getElem? hd) m P2 L2 σ2 H2 v2 Q2 E2 r2 fun σ3 ρ3 E3 hw hT => q2 σ3 ρ3 E3 hw ?_
    refine hT.mono fun m2 b ⟨e1, e2, he⟩ => ?_
    subst e1
    cases b with
    | true =>
      rw [if_pos rfl]
      refine (he rfl).mono fun m3 y ⟨e3, e4⟩ => ?_
      subst e3; subst e4
      refine ⟨?_, rfl, ?_⟩
      · have h1 : (List.map f (List.filter p (List.take k ds))).length ≤ ds.length := by
          rw [List.length_map]
          exact Nat.le_trans (List.length_filter_le _ _) (by rw [List.length_take]; omega)
        exact Nat.lt_of_le_of_lt (Nat.le_trans h1 hz) (by decide)
      · rw [tk, List.filter_append, List.map_append]
        simp [← e2]
    | false =>
      rw [if_neg Bool.false_ne_true]
      refine ⟨rfl, ?_⟩
      rw [tk, List.filter_append, List.map_append]
      simp [← e2]
  · rintro m acc ⟨e1, e2⟩
    subst e1; subst e2
    rw [List.take_length]
    exact kk
end
end L3
/-! L3h: the rules with the written part K said (within comprehensions it must not hang on the block). -/
namespace L3
open PySem L2
section
variable {X : Cx} (K : PySem.W.Frag)
theorem x_eq (hu : X.A.units + 64 < cLine) (hK : X.K = K := by rfl) : OpR X (compareOp .Eq) (rEqD K) := hK ▸ op_eqD hu
theorem x_ne (hu : X.A.units + 64 < cLine) (hK : X.K = K := by rfl) : OpR X (compareOp .NotEq) (rNeD K) := hK ▸ op_neD hu
theorem x_in (hu : X.A.units + 65 < cLine) (hK : X.K = K := by rfl) : OpR X (compareOp .In) (rInS K false) := hK ▸ op_inSeq hu
theorem x_notIn (hu : X.A.units + 65 < cLine) (hK : X.K = K := by rfl) : OpR X (compareOp .NotIn) (rInS K true) := hK ▸ op_notInSeq hu
theorem x_add (hK : X.K = K := by rfl) : OpR X (binaryOp .Add) (rAddD K) := hK ▸ op_addD
theorem x_ix (hK : X.K = K := by rfl) : IxR X (rIx K) := hK ▸ ix_seq
theorem x_sl (hK : X.K = K := by rfl) : SlR X (rSlS3 K) := hK ▸ sl_seq
theorem x_len (hK : X.K = K := by rfl) : CallR X (.builtin "len") (rLenD K) := hK ▸ call_lenX
theorem x_list (hK : X.K = K := by rfl) : CallR X (.type "list") (rListD K) := hK ▸ call_listX
theorem x_tup (hK : X.K = K := by rfl) : CallR X (.type "tuple") (rTupD K) := hK ▸ call_tupX
theorem x_sum (hc : X.calm = true := by rfl) (hK : X.K = K := by rfl) : CallR X (.builtin "sum") (rSum K) := hK ▸ cr_sum hc
theorem x_max (hc : X.calm = true := by rfl) (hK : X.K = K := by rfl) : CallR X (.builtin "max") (rMax K) := hK ▸ cr_max hc
theorem x_min (hc : X.calm = true := by rfl) (hK : X.K = K := by rfl) : CallR X (.builtin "min") (rMin K) := hK ▸ cr_min hc
theorem x_any (hc : X.calm = true := by rfl) (hK : X.K = K := by rfl) : CallR X (.builtin "any") (rAny K) := hK ▸ cr_any hc
theorem x_all (hc : X.calm = true := by rfl) (hK : X.K = K := by rfl) : CallR X (.builtin "all") (rAll K) := hK ▸ cr_all hc
theorem x_sorted (hu : X.A.units + 64 < cLine) (hK : X.K = K := by rfl) : CallR X (.builtin "sorted") (rSortD K) := hK ▸ cr_sortD hu
theorem x_isi (hK : X.K = K := by rfl) : CallR X (.builtin "isinstance") (rIsi K) := hK ▸ call_isi
theorem x_seq {tg l : Expr} {tl : TE} (hl : PE X l tl) (hK : X.K = K := by rfl) : PI X tg l (iSeq K tl) := hK ▸ pi_seq hl
theorem x_enum {e : Expr} {ta : TA} {p pos tpos : Pos} {elts : List Expr} {kk : Nat} (hg : Gl X "enumerate") (hm : X.mg "enumerate" = none) (ha : PA X [e] ta) (hs : starEach [e] X.env = [(false, eval e X.env)] := by rfl) (hK : X.K = K := by rfl) :
    PI X (.Tuple elts kk tpos) (.Call (.Name "enumerate" p) [e] [] pos) (iEnum K ta) := hK ▸ pi_enum hg hm ha hs
theorem x_tgt {m : Nat} {target : Expr} {t : TGs} (h : PG X target (gTup X.K m t)) (hK : X.K = K := by rfl) : PG X target (gTup K m t) := hK ▸ h
end
end L3
/-! L3i: own dicts whose keys are tuples. -/
namespace L3
open PySem L2
section
variable {X : Cx} {pins : List (Addr × Obj)} {σ : L2.St} {H : Hp} {s : Shared}
mutual
theorem nk_is (I : Inv X pins σ H s) {O : List Addr} : ∀ (d : D) (v : V) (u : Value), Rp X.K (hid O H) v d → RelV v u → nkOk d = true → NestedIs s.heap (nk d) u
  | .non, _, _, h, r, _ => by cases h; cases r; exact .none
  | .int i, _, _, h, r, _ => by cases h; obtain ⟨t, rfl⟩ := r; exact .int i t
  | .str x, _, _, h, r, _ => by cases h; obtain ⟨t, rfl⟩ := r; exact .text x t
  | .tup ds, _, _, h, r, k => by
    cases h with
    | tup hs ha =>
      cases r
      obtain ⟨its, rv, ⟨o, ho, hc, n, hd⟩, _⟩ := I.tuple (same_t same_hid hs)
      exact .tup ho hc hd (by rw [List.toList_toArray]; exact nk_all I ds _ its ha rv k)
  | .bl _, _, _, _, _, k => nomatch k
  | .lst _, _, _, _, _, k => nomatch k
  | .obj _ _, _, _, _, _, k => nomatch k
  | .adr _, _, _, _, _, k => nomatch k
  | .ty _, _, _, _, _, k => nomatch k
  | .er _ _, _, _, _, _, k => nomatch k
  | .dct _, _, _, _, _, k => nomatch k
  | .dcn _ _ _, _, _, _, _, k => nomatch k
theorem nk_all (I : Inv X pins σ H s) {O : List Addr} : ∀ (ds : List D) (vs : List V) (us : List Value), RpAll X.K (hid O H) vs ds → Vals vs us → nkOkAll ds = true → NestedAll s.heap (nkAll ds) us
  | [], _, _, h, r, _ => by cases h; cases r; exact .nil
  | d :: ds, _, _, h, r, k => by
    have h' : (nkOk d && nkOkAll ds) = true := k
    rw [Bool.and_eq_true] at h'
    cases h with
    | cons h1 h2 =>
      cases r with
      | cons r1 r2 => exact .cons (nk_is I d _ _ h1 r1 h'.1) (nk_all I ds _ _ h2 r2 h'.2)
end
theorem key_is (I : Inv X pins σ H s) {O : List Addr} {v : V} {d : D} {u : Value} (h : Rp X.K (hid O H) v d) (r : RelV v u) (k : keyD d = true) : ∃ a, v = .ref a ∧ u = .ref a ∧ (nestedKind X.prog X.w).is s.heap (nk d) a := by
  cases h with
  | @tup a xs ds hs ha =>
    have k' : (nkOkAll ds && decide ((nk (.tup ds)).depth ≤ 8)) = true := k
    rw [Bool.and_eq_true] at k'
    have q := nk_is I _ _ _ (.tup hs ha) r k'.1
    cases r
    exact ⟨a, rfl, rfl, q, of_decide_eq_true k'.2⟩
  | _ => cases k
end
def lookD (kvs : List (D × D)) (k : D) : Option D := (kvs.find? fun kv => decide (nk kv.1 = nk k)).map (·.2)
def putD (kvs : List (D × D)) (k v : D) : List (D × D) := if (lookD kvs k).isSome then kvs.map fun kv => if nk kv.1 = nk k then (kv.1, v) else kv else kvs ++ [(k, v)]
section
variable {K : PySem.W.Frag} {H : Hp}
theorem ent_look {kd : D} : ∀ {kvs : List (D × D)} {xs : List (NestedKey × Addr × Value)}, Paired (EntD K H) kvs xs →
    (lookD kvs kd = none ∧ atKey xs (nk kd) = none) ∨ ∃ v a u w, lookD kvs kd = some v ∧ atKey xs (nk kd) = some (a, u) ∧ RelV w u ∧ Rp K H w v
  | _, _, .nil => .inl ⟨rfl, rfl⟩
  | kv :: kvs, x :: xs, .cons h t => by
    obtain ⟨h1, h2, h3, w, h4, h5⟩ := h
    by_cases e : nk kv.1 = nk kd
    · right
      refine ⟨kv.2, x.2.1, x.2.2, w, ?_, ?_, h4, h5⟩
      · unfold lookD; rw [List.find?_cons_of_pos (by simpa using e)]; rfl
      · unfold atKey; rw [List.find?_cons_of_pos (by simpa [h2] using e)]; rfl
    · have r := ent_look (kd := kd) t
      have e1 : lookD (kv :: kvs) kd = lookD kvs kd := by unfold lookD; rw [List.find?_cons_of_neg (by simpa using e)]
      have e2 : atKey (x :: xs) (nk kd) = atKey xs (nk kd) := by unfold atKey; rw [List.find?_cons_of_neg (by simpa [h2] using e)]
      rw [e1, e2]; exact r
theorem ent_len : ∀ {kvs : List (D × D)} {xs : List (NestedKey × Addr × Value)}, Paired (EntD K H) kvs xs → kvs.length = xs.length
  | _, _, .nil => rfl
  | _, _, .cons _ t => by rw [List.length_cons, List.length_cons, ent_len t]
theorem ent_map {kd vd : D} {u : Value} {w : V} (r : RelV w u) (rw' : Rp K H w vd) : ∀ {kvs : List (D × D)} {xs : List (NestedKey × Addr × Value)}, Paired (EntD K H) kvs xs →
    Paired (EntD K H) (kvs.map fun kv => if nk kv.1 = nk kd then (kv.1, vd) else kv) (xs.map (putAt (nk kd) u))
  | _, _, .nil => .nil
  | kv :: kvs, x :: xs, .cons h t => by
    refine .cons ?_ (ent_map r rw' t)
    obtain ⟨h1, h2, h3, h4⟩ := h
    unfold putAt
    show EntD K H (if nk kv.1 = nk kd then (kv.1, vd) else kv) _
    by_cases e : nk kv.1 = nk kd
    · rw [if_pos e, if_pos (by rw [h2]; exact e)]
      exact ⟨h1, h2, h3, w, r, rw'⟩
    · rw [if_neg e, if_neg (by rw [h2]; exact e)]
      exact ⟨h1, h2, h3, h4⟩
theorem paired_app {α β : Type} {R : α → β → Prop} {a : α} {b : β} (h : R a b) : ∀ {xs : List α} {ys : List β}, Paired R xs ys → Paired R (xs ++ [a]) (ys ++ [b])
  | _, _, .nil => .cons h .nil
  | _, _, .cons q t => .cons q (paired_app h t)
theorem ent_put {kd vd : D} {a : Addr} {u : Value} {w : V} (hk : keyD kd = true) (ra : Rp K H (.ref a) kd) (r : RelV w u) (rw' : Rp K H w vd) {kvs : List (D × D)} {xs : List (NestedKey × Addr × Value)} (h : Paired (EntD K H) kvs xs) :
    Paired (EntD K H) (putD kvs kd vd) (storedH xs (nk kd) a u) := by
  unfold putD storedH
  rcases ent_look (kd := kd) h with ⟨e1, e2⟩ | ⟨v, a', u', w', e1, e2, _⟩
  · rw [e1, e2, if_neg (by simp), if_neg (by simp)]
    exact paired_app ⟨hk, rfl, ra, w, r, rw'⟩ h
  · rw [e1, e2]
    exact ent_map r rw' h
theorem putD_len (kvs : List (D × D)) (k v : D) : (putD kvs k v).length ≤ kvs.length + 1 := by
  unfold putD
  split
  · rw [List.length_map]; omega
  · rw [List.length_append]; exact Nat.le_refl _
end
section
variable {X : Cx} {pins : List (Addr × Obj)} {σ : L2.St} {H : Hp} {s : Shared}
theorem nd_of (I : Inv X pins σ H s) {O : List Addr} {l : Addr} {kvs : List (D × D)} {xs : List (NestedKey × Addr × Value)} (h1 : H l = some (.ext (DictBare X.prog X.w xs l))) (h3 : Paired (EntD X.K (hid O H)) kvs xs) : s.heap.DictOfH (nestedKind X.prog X.w) l xs := by
  obtain ⟨⟨o, es, ep, e1, e2, e3, e4, e5⟩, _⟩ := I.hok l _ h1
  refine ⟨o, es, ep, e1, e2, e3, e4, fun x hx => ?_, e5⟩
  have key : ∀ {kvs : List (D × D)} {xs : List (NestedKey × Addr × Value)}, Paired (EntD X.K (hid O H)) kvs xs → x ∈ xs → (nestedKind X.prog X.w).is s.heap x.1 x.2.1 := by
    intro kvs xs h
    induction h with
    | nil => intro q; cases q
    | cons h t ih =>
      intro q
      rcases List.mem_cons.mp q with q | q
      · subst q
        obtain ⟨g1, g2, g3, _⟩ := h
        obtain ⟨a, ea, eb, is⟩ := key_is I g3 rfl g1
        cases eb
        rw [g2]; exact is
      · exact ih q
  exact key h3 hx
theorem bare_ok {xs : List (NestedKey × Addr × Value)} {l : Addr} {h' : Heap} {pr : Program} {wd : World} {Hq : Hp} (b : DictBare pr wd xs l h') : ObjOk pr wd Hq h' l (.ext (DictBare pr wd xs l)) := by
  obtain ⟨o, es, ep, e1, r⟩ := id b
  exact ⟨b, ⟨o, e1⟩, fun h1 h2 ⟨o, es, ep, q1, q2⟩ k => ⟨o, es, ep, k o q1, q2⟩⟩
end
/-! ### the rules -/
def tDNewN (pr : Program) (wd : World) : TE := fun _ H Q => ∀ p, H p = none → (p == sysModules) = false → Q (.ref p) (upd H p (.ext (DictBare pr wd [] p)))
def rIxN (pr : Program) (wd : World) (K : PySem.W.Frag) : R2 := fun x y H Q => ∃ (O : List Addr) (l : Addr) (kvs : List (D × D)) (kd v : D), x = .ref l ∧ NDict pr wd K O H l kvs ∧ Rp K (hid O H) y kd ∧ keyD kd = true ∧ lookD kvs kd = some v ∧ ∀ u, Rp K (hid O H) u v → Q u H
def tGetN (pr : Program) (wd : World) (K : PySem.W.Frag) (td ty tx : TE) : TE := fun σ H Q => td σ H fun x H1 => ∃ l, x = .ref l ∧ (∃ O kvs, NDict pr wd K O H1 l kvs) ∧ ty σ H1 fun y H2 => tx σ H2 fun z H3 => ∃ (O : List Addr) (kvs : List (D × D)) (kd : D), NDict pr wd K O H3 l kvs ∧ Rp K (hid O H3) y kd ∧ keyD kd = true ∧
  (∀ v u, lookD kvs kd = some v → Rp K (hid O H3) u v → Q u H3) ∧ (lookD kvs kd = none → Q z H3)
def rSetN (pr : Program) (wd : World) (K : PySem.W.Frag) : TSet := fun o i v H Q => ∃ (O : List Addr) (l : Addr) (kvs : List (D × D)) (kd vd : D), o = .ref l ∧ l ∈ O ∧ NDict pr wd K O H l kvs ∧ Rp K (hid O H) i kd ∧ keyD kd = true ∧ Rp K (hid O H) v vd ∧ kvs.length < sizeLine ∧
  ∀ φ, NDict pr wd K O (upd H l (.ext φ)) l (putD kvs kd vd) → Q (upd H l (.ext φ))
def rSortN (pr : Program) (wd : World) (K : PySem.W.Frag) : List V → Hp → VK → Prop := fun vs H Q => ∃ (O : List Addr) (l : Addr) (kvs : List (D × D)), vs = [.ref l] ∧ NDict pr wd K O H l kvs ∧ plainAll (kvs.map (·.1)) = true ∧ PySem.W.AllAlike ((kvs.map (·.1)).map dpy) ∧ PySem.W.Sortable ((kvs.map (·.1)).map dpy) ∧ kvs.length ≤ sizeLine ∧
  (∀ d ∈ kvs.map (·.1), (dpy d).depth ≤ 50) ∧ ∀ p ys, H p = none → RpAll K (hid O H) ys (sortD (kvs.map (·.1))) → Q (.ref p) (upd H p (.lst ys))
section
variable {X : Cx} (pr : Program) (wd : World) (K : PySem.W.Frag)
theorem sys_lt {X : Cx} {pins : List (Addr × Obj)} {σ : L2.St} {H : Hp} {s : Shared} (I : Inv X pins σ H s) : (s.heap.objs.size == sysModules) = false := by
  have := I.big
  simp only [beq_eq_false_iff_ne, ne_eq]
  intro e
  exact absurd this (by rw [e]; exact Nat.lt_irrefl _)
theorem pe_dnewN {pos : Pos} (hp : X.prog = pr := by rfl) (hw : X.w = wd := by rfl) : PE X (.Dict [] [] pos) (tDNewN pr wd) := by
  subst hp; subst hw
  refine ⟨fun pins s σ H Q I h => ?_⟩
  refine wpAny_Dict_empty ⟨.ref s.heap.objs.size, _, I.laid (a := s.heap.objs.size) (o := .ext (DictBare X.prog X.w [] s.heap.objs.size)) (t' := s.toks) (fun _ _ q => Heap.get?_push_of_some _ q) (Nat.le_refl _) (bare_ok ?_), rfl, h _ (I.hok.fresh (Nat.le_refl _)) (sys_lt I)⟩
  obtain ⟨o, es, ep, e1, e2, e3, e4, _, e5⟩ := Heap.DictOfH.new (knd := nestedKind X.prog X.w) s.heap
  exact ⟨o, es, ep, e1, e2, e3, e4, e5⟩
theorem x_ixN (hu : X.A.units + 64 < cLine) (hp : X.prog = pr := by rfl) (hw : X.w = wd := by rfl) (hK : X.K = K := by rfl) : IxR X (rIxN pr wd K) := by
  subst hp; subst hw; subst hK
  intro value slice pins s σ H x y v u Q I rx ry h hs
  obtain ⟨O, l, kvs, kd, vd, rfl, ⟨xs, n1, n2, n3⟩, rk, hk, hl, q⟩ := h
  cases rx
  obtain ⟨a, ea, eb, is⟩ := key_is I rk ry hk
  subst eb
  have dd := nd_of I n1 n3
  rcases ent_look (kd := kd) n3 with ⟨e1, _⟩ | ⟨v', a', u', w, e1, e2, e3, e4⟩
  · rw [e1] at hl; cases hl
  · rw [e1] at hl
    cases hl
    refine PyProof.Rows.tail_any dd.typeIs PySem.F.slot_dict_getitem.lookup ?_ hs
    exact wpAny_getItem_heap (by show X.A.in1.units + 8 < cLine; have : X.A.in1.units = X.A.units + 1 := rfl; omega) is dd e2 ⟨w, H, I.tok _, e3, q w e4⟩
theorem x_setN (hu : X.A.units + 64 < cLine) (hp : X.prog = pr := by rfl) (hw : X.w = wd := by rfl) (hK : X.K = K := by rfl) : PSet X (rSetN pr wd K) := by
  subst hp; subst hw; subst hK
  intro pins s σ H o i v ov iv u Q I ro ri rv h
  obtain ⟨O, l, kvs, kd, vd, rfl, lO, ⟨xs, n1, n2, n3⟩, rk, hk, rvd, hz, q⟩ := h
  cases ro
  obtain ⟨a, ea, eb, is⟩ := key_is I rk ri hk
  subst eb
  have dd := nd_of I n1 n3
  refine wpAny_setItem_heap (hsz := by rw [← ent_len n3]; exact Nat.le_of_lt hz) (by show X.A.in1.units + 8 < cLine; have : X.A.in1.units = X.A.units + 1 := rfl; omega) is dd fun h' dd' hs => ?_
  obtain ⟨o, es, ep, e1, e2, e3, e4, _, e5⟩ := dd'
  have bb : DictBare X.prog X.w (storedH xs (nk kd) a u) l h' := ⟨o, es, ep, e1, e2, e3, e4, e5⟩
  refine ⟨_, d_write I (by rw [n1]; exact True.intro) hs ⟨o, e1⟩ (bare_ok bb), q _ ?_⟩
  subst ea
  refine ⟨_, upd_same, n2, ?_⟩
  rw [hid_upd_in lO]
  exact ent_put hk rk rv rvd n3
theorem pe_getN {o e f : Expr} {apos cpos : Pos} {td ty tx : TE} (hu : X.A.units + 64 < cLine) (ho : PE X o td) (he : PE X e ty) (hf : PE X f tx) (m : M2 X o "get" apos e f cpos) (hp : X.prog = pr := by rfl) (hw : X.w = wd := by rfl) (hK : X.K = K := by rfl) :
    PE X (.Call (.Attribute o "get" apos) [e, f] [] cpos) (tGetN pr wd K td ty tx) := by
  subst hp; subst hw; subst hK
  refine ⟨fun pins s σ H Q I h => ?_⟩
  refine wpAny_Call_method m.base m.few m.line PySem.F.plainAttrs_dict PySem.F.slot_dict_get PySem.F.type_dict_get (thn (ho.run pins s σ H _ I h) fun u s1 ⟨x, H1, I1, rx, l, ex, ⟨O, kvs, xs, n1, n2, n3⟩, q1⟩ => ?_)
  subst ex
  obtain rfl : u = Value.ref l := rx
  have dd := nd_of I1 n1 n3
  refine ⟨dd.typeIs, fun b eb => ?_, ?_⟩
  · cases eb
    obtain ⟨o, es, ep, e1, e2, _⟩ := dd
    exact ⟨o, e1, e2.2.1⟩
  rw [m.trees]
  refine Calls.callWith_builtin rfl (Calls.evalArgs_plain (Calls.spliced_cons (thn (he.run pins s1 σ H1 _ I1 q1) fun iv s2 ⟨y, H2, I2, ry, q2⟩ =>
    Calls.spliced_cons (thn (hf.run pins s2 σ H2 _ I2 q2) fun fv s3 ⟨z, H3, I3, rz, O3, kvs3, kd, ⟨xs3, m1, m2, m3⟩, rk, hk, qs, qn⟩ => Calls.spliced_nil ?_))))
  obtain ⟨a, ea, eb, is⟩ := key_is I3 rk ry hk
  subst eb
  have dd3 := nd_of I3 m1 m3
  refine call_meetsIn PySem.F.slot_dict_get dd3.typeIs PySem.F.entry_dict_get (PySem.F.args_dict_get_3 _ _ _) (meetsH_dict_get_default (nestedKind X.prog X.w) l a m2 fv) ⟨by show X.A.in1.units + 8 < cLine; have : X.A.in1.units = X.A.units + 1 := rfl; omega, nk kd, xs3, is, dd3, ?_⟩
  rcases ent_look (kd := kd) m3 with ⟨e1, e2⟩ | ⟨v', a', u', w, e1, e2, e3, e4⟩
  · rw [e2]
    exact ⟨z, H3, I3.tok _, rz, qn e1⟩
  · rw [e2]
    exact ⟨w, H3, I3.tok _, e3, qs v' w e1 e4⟩
end
end L3
/-! L3j: sorted(d); the rules of own dicts over data; count. -/
namespace L3
open PySem L2 PySem.W PyProof.Rows PySem.Calls PyProof.V
section
variable {prog : Program} {w : World} {A : Around} {E : Value → Shared → Prop} {s : Shared}
theorem sorted_dictH {β : Type} {R : Value → β → Prop} {enc : β → PyData} {bs : List β} {d : Addr} {es : Array DictEntry} {ep : Nat} {Q : Value → Shared → Prop} (hh : A.handled = none) (lo : (d == sysModules) = false) (hD : s.heap.DictRaw d es ep)
    (e : EachIs R (es.toList.map (·.key)) bs) (er : EachIs (fun v b => ∃ as, Reads s.heap v (enc b) as) (es.toList.map (·.key)) bs) (hal : AllAlike (bs.map enc)) (hk : Sortable (bs.map enc)) (hL : bs.length ≤ sizeLine)
    (hu : ∀ b, b ∈ bs → A.units + 2 + (enc b).depth < cLine)
    (h : ∀ (h1 h2 : Heap) (tk : Nat) (out : List Value) (c : Nat), (∀ b o, s.heap.get? b = some o → h1.get? b = some o) → (∀ b o, h1.get? b = some o → h2.get? b = some o) → h2.get? h1.objs.size = some { cls := .type "list", data := .seq out.toArray c } → out.length = bs.length → EachIs R out (bs.mergeSort (dataLe false enc)) → Q (.ref h1.objs.size) { s with heap := h2, toks := tk }) :
    wpAny (model prog w) A (call (.builtin "sorted") [.ref d]) Q E s := by
  have hn : es.size ≤ sizeLine := by
    have q := e.length
    rw [List.length_map, Array.length_toList] at q
    omega
  refine call_function_entry kind_sorted plain_sorted entry_sorted (args_sorted1 _) ?_
  unfold Builtin.«sorted»
  refine wpAny_bind (m := checkCount "sorted" 1 1 _) (wpAny_pure ?_)
  refine wpAny_bind (kdu_collect (A := A.in1) (KdlSrc.rawDict lo) hh hD hn fun h' tk acc hkp hacc => ?_)
  have hl : acc.toList = es.toList.map (·.key) := by
    apply List.ext_getElem?
    intro j
    by_cases hj : j < acc.size
    · obtain ⟨hi, hv⟩ := hacc.2 j acc[j] (by simp [hj])
      rw [Array.getElem?_toList, Array.getElem?_eq_getElem hj, List.getElem?_map, Array.getElem?_toList, Array.getElem?_eq_getElem hi, hv]; rfl
    · have hs : acc.size = es.size := hacc.1
      rw [Array.getElem?_toList, Array.getElem?_eq_none (by omega), List.getElem?_map, Array.getElem?_toList, Array.getElem?_eq_none (by omega)]; rfl
  have hz : acc.toList.length ≤ sizeLine := by rw [Array.length_toList, hacc.1]; exact hn
  refine wpAny_bind (wpAny_newList ?_ hz)
  rw [hl] at hz ⊢
  generalize hvs : es.toList.map (·.key) = vs at e er hz ⊢
  have ho : (h'.push { cls := .type "list", data := .seq vs.toArray }).get? h'.objs.size = some (seqObj "list" vs.toArray 0) := Heap.get?_push_size _ rfl
  have old : ∀ b o, s.heap.get? b = some o → (sortingHeap (h'.push { cls := .type "list", data := .seq vs.toArray }) h'.objs.size vs).get? b = some o := fun b o q =>
    sortingHeap_old (Nat.ne_of_lt (Heap.lt_size (hkp b o q))) (Heap.get?_push_of_some _ (hkp b o q))
  have er' : EachIs (fun v b => ∃ as, Reads (sortingHeap (h'.push { cls := .type "list", data := .seq vs.toArray }) h'.objs.size vs) v (enc b) as) vs bs := er.mono fun _ _ ⟨as, r⟩ => ⟨as, PyProof.Rows.Reads.keeps old r⟩
  refine wpAny_bind (wpAny_holding ?_)
  refine wpAny_call_entry slot_list_sort ⟨_, ho, rfl⟩ entry_list_sort (list_sort_vals (κ := dataKind (sortingHeap (h'.push { cls := .type "list", data := .seq vs.toArray }) h'.objs.size vs) (bs.map enc)) ho (SortsAt.data (s := { s with heap := sortingHeap (h'.push { cls := .type "list", data := .seq vs.toArray }) h'.objs.size vs, toks := tk }) (each_map (R := fun v d => ∃ as, Reads (sortingHeap (h'.push { cls := .type "list", data := .seq vs.toArray }) h'.objs.size vs) v d as) enc er') hal hk (bound_map hu)) (by rw [e.length]; exact hL) ⟨.none, rfl, ?_⟩) (args_list_sort _)
  obtain ⟨c, hc⟩ := sortedHeap_at (out := (sortVals (dataKind (sortingHeap (h'.push { cls := .type "list", data := .seq vs.toArray }) h'.objs.size vs) (bs.map enc)) false vs vs).toArray) ho
  refine wpAny_pure ⟨_, rfl, h h' _ tk _ c hkp ?_ hc (by rw [sortVals_length false rfl]; exact e.length) (sortVals_data false e er' hal)⟩
  intro b o q
  rw [sortedHeap_old (Nat.ne_of_lt (Heap.lt_size q)) (Nat.lt_of_lt_of_le (Heap.lt_size q) (by rw [Heap.size_push]; exact Nat.le_succ _))]
  exact Heap.get?_push_of_some _ q
end
section
variable {X : Cx} (pr : Program) (wd : World) (K : PySem.W.Frag)
theorem ent_keys {K : PySem.W.Frag} {H : Hp} : ∀ {kvs : List (D × D)} {xs : List (NestedKey × Addr × Value)}, Paired (EntD K H) kvs xs → EachIs (fun (u : Value) (d : D) => ∃ v, RelV v u ∧ Rp K H v d) (xs.map fun x => Value.ref x.2.1) (kvs.map (·.1))
  | _, _, .nil => .nil
  | _, _, .cons (a := kv) (b := x) h t => .cons ⟨V.ref x.2.1, rfl, h.2.2.1⟩ (ent_keys t)
theorem x_sortN (hu : X.A.units + 64 < cLine) (hcalm : X.calm = true := by rfl) (hp : X.prog = pr := by rfl) (hw : X.w = wd := by rfl) (hK : X.K = K := by rfl) : CallR X (.builtin "sorted") (rSortN pr wd K) := by
  subst hp; subst hw; subst hK
  intro pins s σ H vs us Q I r h
  obtain ⟨O, l, kvs, rfl, ⟨xs, n1, n2, n3⟩, hpl, hal, hk, hL, hdep, q⟩ := h
  rw [Vals.ref1 r]
  obtain ⟨⟨o, es, ep, e1, e2, e3, e4, e5⟩, _⟩ := I.hok l _ n1
  have el := ent_keys n3
  have ek : es.toList.map (·.key) = xs.map fun x => Value.ref x.2.1 := by rw [e4, List.map_map]; rfl
  have er : EachIs (fun (u : Value) (d : D) => ∃ as, Reads s.heap u (dpy d) as) (xs.map fun x => Value.ref x.2.1) (kvs.map (·.1)) := by
    refine (each_mem el).mono ?_
    rintro u d ⟨⟨v, r1, r2⟩, hd⟩
    exact Dp.reads I (dpy d) v u (Dp.mono same_hid (r2.dp (plainAll_mem hpl hd))) r1
  refine sorted_dictH (s := s) (I.ok.hd hcalm) n2 ⟨o, e1, e2, e3⟩ (by rw [ek]; exact el) (by rw [ek]; exact er) hal hk (by rw [List.length_map]; exact hL) (fun d hd => by have := hdep d hd; omega) fun h1 h2 tk out c k1 k2 hc ho eo => ?_
  obtain ⟨ys, g1, g2⟩ := rp_each eo
  have hlen : ys.length ≤ sizeLine := by rw [g1.length, ho, List.length_map]; exact hL
  have I1 : Inv X pins σ H { s with heap := h1 } := I.kept (t' := s.toks) k1
  exact ⟨.ref _, upd H h1.objs.size (.lst ys), I1.laid (t' := tk) k2 (Nat.le_refl _) ⟨hlen, out, c, g1, hc⟩, rfl, q _ ys (I1.hok.fresh (Nat.le_refl _)) g2⟩
/-- list.count of data -/
def rCountD (K : PySem.W.Frag) : V → List V → Hp → VK → Prop := fun x vs H Q => ∃ (O : List Addr) (y : V) (ds : List D) (d : D), vs = [y] ∧ Rp K (hid O H) x (.lst ds) ∧ Rp K (hid O H) y d ∧ fit d = true ∧ fit (.lst ds) = true ∧ Q (.int ((ds.countP fun z => eqD z d : Nat) : Int)) H
theorem countP_map {α β : Type} (f : α → β) (p : β → Bool) (l : List α) : (l.map f).countP p = l.countP (p ∘ f) := by rw [List.countP_map]
theorem x_count (hu : X.A.units + 65 < cLine) (hK : X.K = K := by rfl) : MtR X "list.count" (rCountD K) := by
  subst hK
  intro pins s σ H x vs v us Q I rx rv h
  obtain ⟨O, y, ds, d, rfl, rl, ry, hd, hds, q⟩ := h
  cases rl with
  | @lst a xs _ hs ha =>
    cases rx
    cases rv with
    | cons r1 r2 =>
      cases r2
      obtain ⟨its, n, rit, e, hz⟩ := inv_rdL I (same_rd same_hid hs)
      obtain ⟨bs, rd⟩ := Dp.reads I (dpy d) y _ (Dp.mono same_hid (ry.dp (fit_p hd))) r1
      obtain ⟨as, ra⟩ := Dp.readsAll I (dpyAll ds) xs its (DpAll.mono same_hid (ha.dp (fit_p hds))) rit
      have hxs : PyData.canLayAll0 (dpyAll ds) = true := SeqAt.canLay_of_shaped (fit_s hds)
      have hroom : X.A.units + 1 + min (PyData.depthAll (dpyAll ds)) (dpy d).depth < cLine := room_in_shaped (fit_s hd) hu
      have hmap : its.map (SeqAt.readOf s.heap) = dpyAll ds := SeqAt.readsAll_map (dpyAll ds) its as hxs ra
      refine call_meets PySem.F.slot_list_count ⟨_, e, rfl⟩ PySem.F.entry_list_count (PySem.F.args_list_count_2 _ _) (SeqAt.list_countAt a its.toArray n none #[] _ (fun u => PyData.eqv (SeqAt.readOf s.heap u) (dpy d))) ⟨e, SeqAt.items_eqAt (vs := its.toArray) (show ReadsAll s.heap its.toArray.toList (dpyAll ds) as from ra) rd hxs (SeqAt.canLay_of_shaped (fit_s hd)) hroom, ?_⟩
      refine ⟨.int _, H, I.tok _, ⟨_, rfl⟩, ?_⟩
      have ec : its.toArray.toList.countP (fun u => PyData.eqv (SeqAt.readOf s.heap u) (dpy d)) = ds.countP fun z => eqD z d := by
        rw [List.toList_toArray]
        have h1 : its.countP (fun u => PyData.eqv (SeqAt.readOf s.heap u) (dpy d)) = (its.map (SeqAt.readOf s.heap)).countP fun z => PyData.eqv z (dpy d) := by rw [List.countP_map]; rfl
        rw [h1, hmap, dpyAll_map, List.countP_map]; rfl
      rw [ec]
      exact q
end
end L3
/-! L3k: own dicts over data. -/
namespace L3
open PySem L2
section
variable {X : Cx} (K : PySem.W.Frag)
theorem x_bm {o e : Expr} {es : List Expr} {to : TE} {t : TA} {name : Str} {apos cpos : Pos} {T id : String} {r : V → List V → Hp → VK → Prop} (h : PE X (.Call (.Attribute o name apos) (e :: es) [] cpos) (tBM X.K T r to t)) (hK : X.K = K := by rfl) : PE X (.Call (.Attribute o name apos) (e :: es) [] cpos) (tBM K T r to t) := hK ▸ h
end
section
variable {c : Ctx} {ρ : List SD} {n : Nat} {ta tb te : TE} {t u : TT} {as : TA} {Φ : Nat → D → Prop} {Ψ : Out} {ts us : TS}
theorem we_count {te2 : TE} (h : WE c te ρ n fun n1 d => ∃ ds, d = .lst ds ∧ WE c te2 ρ n1 fun n2 e => fit e = true ∧ fit (.lst ds) = true ∧ Φ n2 (.int ((ds.countP fun z => eqD z e : Nat) : Int))) : WE c (tBM c.K "list" (rCountD c.K) te (tCons te2 tNil)) ρ n Φ := fun P L σ H Q E q => by
  refine h P L σ H _ E fun x d n1 H1 s1 j1 r1 ⟨ds, e, h1⟩ => ?_
  subst e
  have E1 := E.step s1 j1
  cases r1 with
  | @lst a xs _ hs ha =>
    refine ⟨.inl ⟨rfl, xs, .inl (same_rd same_hid hs)⟩, ?_⟩
    refine h1 P L σ H1 _ E1 fun y d2 n2 H2 s2 j2 r2 ⟨f1, f2, k⟩ => ?_
    exact ⟨L ++ c.O, y, ds, d2, rfl, (Rp.lst hs ha).mono (E1.sameLO s2), r2, f1, f2, q _ _ n2 H2 (s1.trans s2) j2 (.int _) k⟩
theorem Env.dic_get {P : Hp} {L : List Addr} {n : Nat} {H : Hp} {σ : List (Option V)} {i : Nat} {kvs : List (D × D)} (E : Env c P L n H σ ρ) (h : ρ[i]? = some (.dic kvs)) : ∃ l, σ[i]? = some (some (.ref l)) ∧ l ∈ L ∧ NDict c.pr c.wd c.K (L ++ c.O) H l kvs := by
  obtain ⟨Ls, sl, sb⟩ := E.slots
  obtain ⟨l, h1, h2, h3⟩ := sl.getD h
  exact ⟨l, h1, sb.subset h2, h3⟩
theorem we_dix {i : Nat} {kvs : List (D × D)} (h0 : ρ[i]? = some (.dic kvs)) (h : WE c te ρ n fun n1 kd => keyD kd = true ∧ ∃ v, lookD kvs kd = some v ∧ Φ n1 v) : WE c (tOp (rIxN c.pr c.wd c.K) (tVar i) te) ρ n Φ := fun P L σ H Q E q => by
  obtain ⟨l, h1, hL, h2⟩ := E.dic_get h0
  refine ⟨.ref l, h1, ?_⟩
  refine h P L σ H _ E fun y kd n1 H1 s1 j1 r1 ⟨hk, v, hv, k⟩ => ?_
  have E1 := E.step s1 j1
  obtain ⟨l', g1, _, g2⟩ := E1.dic_get h0
  rw [h1] at g1
  cases g1
  exact ⟨L ++ c.O, l, kvs, kd, v, rfl, g2, r1, hk, hv, fun u r => q u v n1 H1 s1 j1 r k⟩
theorem we_dget {i : Nat} {kvs : List (D × D)} {tx : TE} (h0 : ρ[i]? = some (.dic kvs)) (h : WE c te ρ n fun n1 kd => WE c tx ρ n1 fun n2 xd => keyD kd = true ∧ Φ n2 ((lookD kvs kd).getD xd)) : WE c (tGetN c.pr c.wd c.K (tVar i) te tx) ρ n Φ := fun P L σ H Q E q => by
  obtain ⟨l, h1, hL, h2⟩ := E.dic_get h0
  refine ⟨.ref l, h1, l, rfl, ⟨_, _, h2⟩, ?_⟩
  refine h P L σ H _ E fun y kd n1 H1 s1 j1 r1 h3 => ?_
  have E1 := E.step s1 j1
  refine h3 P L σ H1 _ E1 fun z xd n2 H2 s2 j2 r2 ⟨hk, k⟩ => ?_
  have E2 := E1.step s2 j2
  obtain ⟨l', g1, _, g2⟩ := E2.dic_get h0
  rw [h1] at g1
  cases g1
  refine ⟨L ++ c.O, kvs, kd, g2, r1.mono (E1.sameLO s2), hk, fun v u hv ru => ?_, fun hn => ?_⟩
  · rw [hv] at k
    exact q u v n2 H2 (s1.trans s2) j2 ru k
  · rw [hn] at k
    exact q z xd n2 H2 (s1.trans s2) j2 r2 k
theorem Slots.dic_at {pr : Program} {wd : World} {K : PySem.W.Frag} {O : List Addr} {H : Hp} {kvs lvs : List (D × D)} : ∀ {σ : List (Option V)} {ρ : List SD} {L : List Addr} {i : Nat}, Slots pr wd K O H σ ρ L → L.Nodup → ρ[i]? = some (.dic kvs) → ∃ l, σ[i]? = some (some (.ref l)) ∧ l ∈ L ∧ NDict pr wd K O H l kvs ∧
    ∀ (o : HO), NDict pr wd K O (upd H l o) l lvs → hid O (upd H l o) = hid O H → Slots pr wd K O (upd H l o) σ (ρ.set i (.dic lvs)) L
  | _, _, _, _, .nil, _, e => by simp at e
  | _, _, _, 0, .un _, _, e => by simp at e
  | _, _, _, i + 1, .un s, nd, e => by
    obtain ⟨l, h1, h2, h3, h5⟩ := Slots.dic_at (i := i) s nd (by simpa using e)
    exact ⟨l, by simpa using h1, h2, h3, fun ys a b => .un (h5 ys a b)⟩
  | _, _, _, 0, .val _ _, _, e => by simp at e
  | _, _, _, i + 1, .val r s, nd, e => by
    obtain ⟨l, h1, h2, h3, h5⟩ := Slots.dic_at (i := i) s nd (by simpa using e)
    exact ⟨l, by simpa using h1, h2, h3, fun ys a b => .val (by rw [b]; exact r) (h5 ys a b)⟩
  | _, _, _, 0, .own _ _ _, _, e => by simp at e
  | _, _, _, i + 1, .own h r s, nd, e => by
    obtain ⟨l, h1, h2, h3, h5⟩ := Slots.dic_at (i := i) s (List.nodup_cons.mp nd).2 (by simpa using e)
    exact ⟨l, by simpa using h1, List.mem_cons_of_mem _ h2, h3, fun ys a b => .own ((upd_ne fun e => (List.nodup_cons.mp nd).1 (by rw [e]; exact h2)).trans h) (by rw [b]; exact r) (h5 ys a b)⟩
  | _, _, _, 0, .dic h s, nd, e => by
    simp at e
    subst e
    exact ⟨_, rfl, List.mem_cons_self, h, fun ys a b => .dic a (s.move (fun l hl => upd_ne fun e => (List.nodup_cons.mp nd).1 (by rw [← e]; exact hl)) (by rw [b]; exact Same.refl _))⟩
  | _, _, _, 0, .dk h s, nd, e => by simp at e
  | _, _, _, 0, .tw h s, nd, e => by simp at e
  | _, _, _, i + 1, .dic h s, nd, e => by
    obtain ⟨l, h1, h2, h3, h5⟩ := Slots.dic_at (i := i) s (List.nodup_cons.mp nd).2 (by simpa using e)
    exact ⟨l, by simpa using h1, List.mem_cons_of_mem _ h2, h3, fun ys a b => .dic (h.move (upd_ne fun e => (List.nodup_cons.mp nd).1 (by rw [e]; exact h2)) (by rw [b]; exact Same.refl _)) (h5 ys a b)⟩
  | _, _, _, i + 1, .dk h s, nd, e => by
    obtain ⟨l, h1, h2, h3, h5⟩ := Slots.dic_at (i := i) s (List.nodup_cons.mp nd).2 (by simpa using e)
    exact ⟨l, by simpa using h1, List.mem_cons_of_mem _ h2, h3, fun ys a b => .dk (h.move (upd_ne fun e => (List.nodup_cons.mp nd).1 (by rw [e]; exact h2)) (by rw [b]; exact Same.refl _)) (h5 ys a b)⟩
  | _, _, _, i + 1, .tw h s, nd, e => by
    obtain ⟨l, h1, h2, h3, h5⟩ := Slots.dic_at (i := i) s (List.nodup_cons.mp nd).2 (by simpa using e)
    exact ⟨l, by simpa using h1, List.mem_cons_of_mem _ h2, h3, fun ys a b => .tw (h.move (upd_ne fun e => (List.nodup_cons.mp nd).1 (by rw [e]; exact h2)) (by rw [b]; exact Same.refl _)) (h5 ys a b)⟩
  | _, _, _, 0, .ot _ _ _, _, e => by simp at e
  | _, _, _, i + 1, .ot h q s, nd, e => by
    subst q
    obtain ⟨l, h1, h2, h3, h5⟩ := Slots.dic_at (i := i) s (List.nodup_append.mp nd).2.1 (by simpa using e)
    exact ⟨l, by simpa using h1, List.mem_append_right _ h2, h3, fun ys a b => .ot (OT.mv _ h (fun x hx => upd_ne fun e => (List.nodup_append.mp nd).2.2 x hx _ h2 e) fun v d r => by rw [b]; exact r) rfl (h5 ys a b)⟩
theorem Env.dic_at {P : Hp} {L : List Addr} {n : Nat} {H : Hp} {σ : List (Option V)} {i : Nat} {kvs : List (D × D)} (E : Env c P L n H σ ρ) (h : ρ[i]? = some (.dic kvs)) : ∃ l, σ[i]? = some (some (.ref l)) ∧ l ∈ L ++ c.O ∧ NDict c.pr c.wd c.K (L ++ c.O) H l kvs ∧
    ∀ (o : HO) (lvs : List (D × D)), NDict c.pr c.wd c.K (L ++ c.O) (upd H l o) l lvs → Env c P L n (upd H l o) σ (ρ.set i (.dic lvs)) := by
  obtain ⟨Ls, sl, sb⟩ := E.slots
  have nd := sb.nodup E.nd
  obtain ⟨l, h1, h2, h3, _⟩ := sl.dic_at (lvs := kvs) nd h
  have lL := sb.subset h2
  have hm : l ∈ L ++ c.O := List.mem_append_left _ lL
  have hO : l ∉ c.O := (E.fresh l lL).2
  refine ⟨l, h1, hm, h3, fun o lvs hy => ?_⟩
  have bs : Same (hid c.B c.H0) (hid c.B (upd H l o)) := same_upd_old (E.fresh l lL).1 E.base
  obtain ⟨l', g1, g2, g3, g5⟩ := sl.dic_at (lvs := lvs) nd h
  rw [h1] at g1
  cases g1
  exact { nd := E.nd, fresh := E.fresh, slots := ⟨Ls, g5 o hy (hid_upd_in hm), sb⟩,
          lst := fun a ha => by
            by_cases e : a = l
            · exact ⟨_, by rw [e, upd_same]⟩
            · rw [upd_ne e]; exact E.lst a ha,
          bag := fun b q hb => (E.bag b q hb).move (fun o h => by rw [upd_ne fun e : b = l => hO (e ▸ (E.bO b q hb).1)]; exact h) fun o h => by rw [upd_ne fun e : q = l => hO (e ▸ (E.bO b q hb).2.1)]; exact h,
          base := bs, pers := by rw [hid_upd_in hm]; exact E.pers, bO := E.bO,
          al := fun o ho => by rw [upd_ne fun e : o = l => hO (e ▸ ho)]; exact E.al o ho }
/-- d[k] = e -/
theorem ws_dput {i : Nat} {kvs : List (D × D)} {tk : TE} (h0 : ρ[i]? = some (.dic kvs)) (hz : kvs.length < 16777216) (h : WE c te ρ n fun n1 vd => WE c tk ρ n1 fun n2 kd => keyD kd = true ∧ Ψ.nx n2 (ρ.set i (.dic (putD kvs kd vd)))) : WS c (tAsg te (gSub (tVar i) tk (rSetN c.pr c.wd c.K))) ρ n Ψ := fun P L σ H Dn E A => by
  refine h P L σ H _ E fun y vd n1 H1 s1 j1 r1 h1 => ?_
  have E1 := E.step s1 j1
  obtain ⟨l, g1, gL, g2, _⟩ := E1.dic_at h0
  refine ⟨.ref l, g1, ?_⟩
  refine h1 P L σ H1 _ E1 fun z kd n2 H2 s2 j2 r2 ⟨hk, k⟩ => ?_
  have E2 := E1.step s2 j2
  obtain ⟨l', g1', gL', g2', up⟩ := E2.dic_at h0
  rw [g1] at g1'
  cases g1'
  refine ⟨L ++ c.O, l, kvs, kd, vd, rfl, gL, g2', r2, hk, r1.mono (E1.sameLO s2), by rw [sizeLine_eq]; exact hz, fun φ hN => ?_⟩
  exact A.nx L n2 _ σ _ (up _ _ hN) k
/-- {} -/
theorem ws_dnew {i : Nat} (hi : i < ρ.length) (k : Ψ.nx n (ρ.set i (.dic []))) : WS c (tAsg (tDNewN c.pr c.wd) (gName i)) ρ n Ψ := fun P L σ H Dn E A => by
  intro p hp hs
  have w := E.new hp
  have nin : p ∉ L ++ c.O := E.noO p hp
  have T := E.newT (o := .ext (DictBare c.pr c.wd [] p)) hp
  have E1 := E.step T.1 T.2.1
  have e0 : ∀ O, hid (p :: O) (upd H p (.ext (DictBare c.pr c.wd [] p))) = hid O H := fun O => hid_new_in hp
  obtain ⟨Ls, sl0, sb⟩ := E.slots
  have sl : Slots c.pr c.wd c.K (p :: (L ++ c.O)) (upd H p (.ext (DictBare c.pr c.wd [] p))) σ ρ Ls := sl0.move (fun l hl => upd_ne fun e => w.2.2 (e ▸ sb.subset hl)) (by rw [e0]; exact Same.refl _)
  have nd : NDict c.pr c.wd c.K (p :: (L ++ c.O)) (upd H p (.ext (DictBare c.pr c.wd [] p))) p [] := ⟨[], upd_same, hs, .nil⟩
  obtain ⟨L1, L2, L3, sl2, eL, sub⟩ := Slots.setN nd (fun q => w.2.2 (sb.subset q)) i hi sl
  have mv : ∃ Lp : List Addr, (L1 ++ p :: L2).Sublist Lp ∧ Lp.Perm (p :: L) := by
    rw [eL] at sb
    have h5 : (L1 ++ L2).Sublist L := (List.Sublist.append_left sub L1).trans sb
    exact ins_sub h5
  obtain ⟨Lp, sLp, pLp⟩ := mv
  have mem : ∀ a, a ∈ Lp ++ c.O ↔ a ∈ p :: (L ++ c.O) := fun a => by
    rw [show p :: (L ++ c.O) = (p :: L) ++ c.O from rfl, List.mem_append, List.mem_append, pLp.mem_iff]
  refine A.nx Lp n _ _ _ ?_ k
  exact { nd := pLp.nodup_iff.mpr (List.nodup_cons.mpr ⟨w.2.2, E.nd⟩),
          fresh := fun l hl => by
            rcases List.mem_cons.mp (pLp.mem_iff.mp hl) with q | q
            · subst q; exact ⟨w.1, w.2.1⟩
            · exact E.fresh l q,
          slots := ⟨_, sl2.move (fun _ _ => rfl) (same_hid_sub fun a ha => (mem a).mp ha), sLp⟩,
          lst := fun l hl => by
            rcases List.mem_cons.mp (pLp.mem_iff.mp hl) with q | q
            · subst q; exact ⟨_, upd_same⟩
            · exact E1.lst l q,
          bag := T.2.1,
          base := E1.base,
          pers := (E.pers.trans (by rw [e0]; exact Same.refl _)).trans (same_hid_sub fun a ha => (mem a).mp ha),
          bO := E.bO, al := E1.al }
/-- sorted(d) -/
theorem wf_dsort {i : Nat} {kvs : List (D × D)} {Φ : Nat → List D → Prop} (h0 : ρ[i]? = some (.dic kvs)) (hp : plainAll (kvs.map (·.1)) = true) (hal : PySem.W.AllAlike ((kvs.map (·.1)).map dpy)) (hk : PySem.W.Sortable ((kvs.map (·.1)).map dpy)) (hL : kvs.length ≤ sizeLine)
    (hd : ∀ d ∈ kvs.map (·.1), (dpy d).depth ≤ 50) (k : Φ n (sortD (kvs.map (·.1)))) : WF c (tCB (rSortN c.pr c.wd c.K) (tCons (tVar i) tNil)) ρ n Φ := fun P L σ H Q E q => by
  obtain ⟨l, h1, hL', h2⟩ := E.dic_get h0
  refine ⟨.ref l, h1, L ++ c.O, l, kvs, rfl, h2, hp, hal, hk, hL, hd, fun p ys hpn hy => ?_⟩
  have T := E.newT (o := .lst ys) hpn
  exact q p ys _ n _ T.1 hpn upd_same (by rw [hid_new_in hpn]; exact hy) T.2.1 k
end
end L3
/-! L3l: defs with defaults, keyword calls, defs as callers see them, small rules. -/
namespace L3
open PySem L2
section
variable {P : Program} {w : World} {K : PySem.W.Frag} {mg : Str → Option Value} {base : Heap}
/-- a def with defaults by its body, over data -/
theorem fn_DD {x qual : Str} {st : Stmt} {f : Addr} {fd : FuncData} {N ps : List Str} {k : Nat} {S : Spec} {dvs : List V} (F : FunD K x qual (defArgs st) (defBody st) (defScope st) dvs [] f fd) (sc : FnScope N ps (defScope st))
    (len : ∀ bag n ds Φ, S bag n ds Φ → ds.length = ps.length)
    (body : ∀ (cdv : Value) (A : Around) (outer : List PySem.Env) (s : Shared) (H : Hp) (E : XK) (O : List Addr) (bag : Option (Addr × Addr)) (n : Nat) (ds : List D) (Φ : Nat → D → Prop), Room k (A.deeper (PyProof.Rows.envOfC qual (defScope st) s.heap.objs.size f cdv)) → S bag n ds Φ →
      ∃ t, PSs (cxOf CX0 P w K mg base N qual (defScope st) f cdv A outer s H E).nox (defBody st) t ∧ WS ⟨P, w, K, O, bag, H⟩ t (rho N ds) n { nx := fun n' _ => Φ n' .non, rt := Φ }) :
    FnOk P w K mg base CX0 (k + 1) f fd ps (spD K S) := by
  refine F.ok sc (fun vs H Q E h => ?_) (fun cdv A outer s H vs Q E hr h => ?_)
  · obtain ⟨O, bag, n, ds, Φ, _, _, r, hS, _⟩ := h
    rw [r.length]; exact len bag n ds Φ hS
  · obtain ⟨O, bag, n, ds, Φ, hb, hO, r, hS, q⟩ := h
    obtain ⟨t, ht, W⟩ := body cdv A outer s H E O bag n ds Φ hr hS
    refine ⟨t, ht.nox, W (fun _ => none) [] _ H _ ?_ ?_⟩
    · have e : L2.start N vs = vs.map some ++ List.replicate (N.length - ds.length) none := by unfold L2.start; rw [r.length]
      exact { nd := List.nodup_nil, fresh := (fun l hl => nomatch hl), slots := ⟨[], by rw [e]; exact slots_start r, List.Sublist.refl _⟩, lst := (fun l hl => nomatch hl), bag := fun b q e => (hb b q e).1, base := Same.refl _,
              pers := (fun _ _ e => nomatch e), bO := fun b q e => (hb b q e).2, al := hO }
    · exact { nx := fun L n' H' σ ρ E k => q .non .non n' H' E.base (fun b q e => E.bag b q e) .non k,
              rt := fun v d n' H' s j r k => q v d n' H' s j r k, bk := fun _ _ _ _ _ _ k => k.elim, ct := fun _ _ _ _ _ _ k => k.elim }
end
section
variable {c : Ctx} {ρ : List SD} {n : Nat} {as tk : TA} {Φ : Nat → D → Prop}
theorem we_ty {T : String} (k : Φ n (.ty T)) : WE c (tC (.ty T)) ρ n Φ := fun P L σ H Q E q => q _ _ n H (Same.refl _) E.bag (.ty T) k
theorem we_callK {S : Spec} {gV : List V → List V → List V} {XE : XK} (h : WA c as ρ n fun n1 ds => WA c tk ρ n1 fun n2 es => ∃ fs, (∀ H vs zs, RpAll c.K H vs ds → RpAll c.K H zs es → RpAll c.K H (gV vs zs) fs) ∧ S c.bag n2 fs Φ) : WE c (tCallK (spD c.K S) gV XE as tk) ρ n Φ := fun P L σ H Q E q => by
  refine h P L σ H _ E fun vs ds n1 H1 s1 j1 r1 h1 => ?_
  have E1 := E.step s1 j1
  refine h1 P L σ H1 _ E1 fun zs es n2 H2 s2 j2 r2 ⟨fs, g, k⟩ => ?_
  have E2 := E1.step s2 j2
  refine ⟨L ++ c.O, c.bag, n2, fs, Φ, fun b q hb => ⟨j2 b q hb, List.mem_append_right _ (E.bO b q hb).1, List.mem_append_right _ (E.bO b q hb).2.1, (E.bO b q hb).2.2⟩, E2.alLO, g _ _ _ (E1.ups (n' := n1) (H2 := H) s2 r1) r2, k, fun v d n3 H3 s3 j3 r3 k3 => ?_⟩
  exact q v d n3 H3 ((s1.trans s2).trans s3) j3 r3 k3
/-- a def as its callers see it -/
structure Dn (P : Program) (w : World) (K : PySem.W.Frag) (mg : Str → Option Value) (base : Heap) (x : Str) (k : Nat) (ps : List Str) (dv : List V) (dw : List Value) (S : L3.Spec) where
  f : Addr
  fd : FuncData
  G : FnOk P w K mg base CX0 k f fd ps (spD K S)
  m : mg x = some (.ref f)
  k : PySem.W.keepIn K (.ref f) = true
  b : Binds K fd ps dw
  v : Vals dv dw
theorem cut_to {xs : List D} {i : Nat} (h : i ≤ xs.length) : cutD xs none (some (i : Int)) = xs.take i := by
  unfold cutD
  have e : HT.sIx xs.length xs.length (some (i : Int)) = i := by rw [HT.sIx_nat]; omega
  rw [e]
  have e0 : HT.sIx xs.length 0 none = 0 := rfl
  rw [e0]; simp
theorem cut_map {α : Type} (f : α → D) (xs : List α) (lo hi : Option Int) : ∃ ys : List α, cutD (xs.map f) lo hi = ys.map f ∧ ys.Sublist xs := by
  unfold cutD
  rw [← List.map_drop, ← List.map_take]
  exact ⟨_, rfl, (List.take_sublist _ _).trans (List.drop_sublist _ _)⟩
end
/-- a def with a raw promise, as its callers see it -/
structure Dr (P : Program) (w : World) (K : PySem.W.Frag) (mg : Str → Option Value) (base : Heap) (x : Str) (k : Nat) (ps : List Str) (S : Sp) where
  f : Addr
  fd : FuncData
  G : FnOk P w K mg base CX0 k f fd ps S
  m : mg x = some (.ref f)
  k : PySem.W.keepIn K (.ref f) = true
  b : Binds K fd ps []
  v : Vals [] []
theorem we_slA {c : Ctx} {ρ : List SD} {n : Nat} {tl th : TO} {Φ : Nat → D → Prop} {i : Nat} {a : Addr} {ns : List Int} (hB : c.bag = none) (hS : SqL c.K c.H0 a (ns.map V.int)) (hi : ρ[i]? = some (.val (.adr a)))
    (h : WO c tl ρ n fun n2 lo => WO c th ρ n2 fun n3 hi => Φ n3 (.lst (cutD (ns.map .int) lo hi))) : WE c (tSl (rSlS3 c.K) (tVar i) tl th) ρ n Φ := fun P L σ H Q E q => by
  refine we_var (Φ := fun n1 d => n1 = n ∧ d = .adr a) hi ⟨rfl, rfl⟩ P L σ H _ E fun x d n1 H1 s1 j1 r1 ⟨e1, e2⟩ => ?_
  subst e1; subst e2
  have E1 := E.step s1 j1
  refine h P L σ H1 _ E1 fun lo n2 H2 s2 j2 h2 => ?_
  have E2 := E1.step s2 j2
  refine h2 P L σ H2 _ E2 fun hi n3 H3 s3 j3 k => ?_
  have E3 := E2.step s3 j3
  have s := (s1.trans s2).trans s3
  cases r1
  have hb : Same c.H0 H3 := fun o u e => by
    have hz : o ∉ c.B := fun q => by
      unfold Ctx.B at q
      rw [hB] at q
      cases q
    exact (hid_some.mp (E3.base o u (hid_some.mpr ⟨hz, e⟩))).2
  refine .inl ⟨_, _, rfl, same_l hb hS, fun p hp => ?_⟩
  have z := E3.newT (o := .lst (cutV (ns.map V.int) lo hi)) hp
  have ra : ∀ (H : Hp) (ns : List Int), RpAll c.K H (ns.map V.int) (ns.map D.int) := fun H ns => by
    induction ns with
    | nil => exact .nil
    | cons x ns ih => exact .cons (.int x) ih
  exact q _ _ n3 _ (s.trans z.1) z.2.1 (.lst (.inl (hid_at z.2.2)) ((ra _ ns).cut lo hi)) k
theorem we_neg {c : Ctx} {ρ : List SD} {n : Nat} {ta : TE} {Φ : Nat → D → Prop} (h : WE c ta ρ n fun n1 d => ∃ i, d = .int i ∧ Φ n1 (.int (-i))) : WE c (tUn (rU fun i => .int (-i)) ta) ρ n Φ := we_un (h.mono fun n1 d ⟨i, e, k⟩ O H x Q r no q => by
  subst e
  cases r
  exact ⟨i, rfl, q _ _ H (Same.refl _) (.int _) k⟩)
theorem fit_list {ds : List D} (h : ∀ d ∈ ds, fit d = true ∧ (dpy d).depth ≤ 60) : fit (.lst ds) = true ∧ fit (.tup ds) = true := by
  have hp : plainAll ds = true := by
    induction ds with
    | nil => rfl
    | cons x ds ih =>
      show (plain x && plainAll ds) = true
      rw [fit_p (h x List.mem_cons_self).1, ih fun d hd => h d (List.mem_cons_of_mem _ hd)]; rfl
  have hc : PyData.canLayAll0 (dpyAll ds) = true ∧ PyData.depthAll (dpyAll ds) ≤ 60 := by
    clear hp
    induction ds with
    | nil => exact ⟨rfl, Nat.zero_le _⟩
    | cons x ds ih =>
      obtain ⟨i1, i2⟩ := ih fun d hd => h d (List.mem_cons_of_mem _ hd)
      have hx := h x List.mem_cons_self
      refine ⟨?_, ?_⟩
      · show (PyData.canLay0 (dpy x) && PyData.canLayAll0 (dpyAll ds)) = true
        rw [SeqAt.canLay_of_shaped (fit_s hx.1), i1]; rfl
      · show max (PyData.depth (dpy x)) (PyData.depthAll (dpyAll ds)) ≤ 60
        exact Nat.max_le.mpr ⟨hx.2, i2⟩
  have sh : SeqAt.shaped (dpy (.lst ds)) = true ∧ SeqAt.shaped (dpy (.tup ds)) = true := by
    unfold SeqAt.shaped
    have d1 : (dpy (.lst ds)).depth = PyData.depthAll (dpyAll ds) + 1 := rfl
    have d2 : (dpy (.tup ds)).depth = PyData.depthAll (dpyAll ds) + 1 := rfl
    have c1 : (dpy (.lst ds)).canLay0 = PyData.canLayAll0 (dpyAll ds) := rfl
    have c2 : (dpy (.tup ds)).canLay0 = PyData.canLayAll0 (dpyAll ds) := rfl
    rw [d1, d2, c1, c2, hc.1]
    have : decide (PyData.depthAll (dpyAll ds) + 1 ≤ 64) = true := decide_eq_true (by omega)
    rw [this]; exact ⟨rfl, rfl⟩
  unfold fit
  have p1 : plain (.lst ds) = plainAll ds := rfl
  have p2 : plain (.tup ds) = plainAll ds := rfl
  rw [p1, p2, hp, sh.1, sh.2]; exact ⟨rfl, rfl⟩
theorem eq_self {d : D} (h : fit d = true) : eqD d d = true := SeqAt.eqv_refl _ (SeqAt.canLay_of_shaped (fit_s h))
theorem gN_go {i : Nat} {v : V} {σ : L2.St} {H : Hp} {Q : L2.St → Hp → Prop} (h : Q (σ.set i (some v)) H) : gName i v σ H Q := h
end L3
/-! L3m: instances: fields read, methods called, made. -/
namespace L3
open PySem L2
section
variable {K : PySem.W.Frag} {H : Hp}
theorem RpFs.look {f : Str} {d : D} : ∀ {vs : List (Str × V)} {ds : List (Str × D)}, RpFs K H vs ds → ds.lookup f = some d → ∃ v, vs.lookup f = some v ∧ Rp K H v d
  | _, _, .nil, e => by cases e
  | _, _, .cons (x := x) h r, e => by
    rw [List.lookup_cons] at e ⊢
    cases q : (f == x) with
    | true => rw [q] at e; cases e; exact ⟨_, rfl, h⟩
    | false => rw [q] at e; exact r.look e
theorem RpFs.none {f : Str} : ∀ {vs : List (Str × V)} {ds : List (Str × D)}, RpFs K H vs ds → ds.lookup f = none → vs.lookup f = none
  | _, _, .nil, _ => rfl
  | _, _, .cons (x := x) h r, e => by
    rw [List.lookup_cons] at e ⊢
    cases q : (f == x) with
    | true => rw [q] at e; cases e
    | false => rw [q] at e; exact r.none e
theorem RpFs.length : ∀ {vs : List (Str × V)} {ds : List (Str × D)}, RpFs K H vs ds → vs.length = ds.length
  | _, _, .nil => rfl
  | _, _, .cons _ r => by rw [List.length_cons, List.length_cons, r.length]
def putFD (f : Str) (d : D) : List (Str × D) → List (Str × D)
  | [] => [(f, d)]
  | (g, x) :: r => if g = f then (g, d) :: r else (g, x) :: putFD f d r
theorem RpFs.put {f : Str} {v : V} {d : D} (h : Rp K H v d) : ∀ {vs : List (Str × V)} {ds : List (Str × D)}, RpFs K H vs ds → RpFs K H (putF f v vs) (putFD f d ds)
  | _, _, .nil => .cons h .nil
  | _, _, .cons (x := x) h0 r => by
    show RpFs K H (if x = f then (x, v) :: _ else _) (if x = f then (x, d) :: _ else _)
    by_cases q : x = f
    · rw [if_pos q, if_pos q]; exact .cons h r
    · rw [if_neg q, if_neg q]; exact .cons h0 (r.put h)
end
section
variable {c : Ctx} {ρ : List SD} {n : Nat} {te to : TE} {as : TA} {Φ : Nat → D → Prop}
theorem we_fld {C : Addr} {f : Str} (cl : Cls c.K C) (na : NoAttr c.K C f) (h : WE c te ρ n fun n1 x => ∃ ds, x = .obj C ds ∧ ∃ d, ds.lookup f = some d ∧ Φ n1 d) : WE c (tFld c.K te f) ρ n Φ := fun P L σ H Q E q => by
  refine h P L σ H _ E fun x d n1 H1 s1 j1 r1 ⟨ds, e, d2, hl, k⟩ => ?_
  subst e
  cases r1 with
  | obj h1 hf =>
    obtain ⟨v, hv, rv⟩ := hf.look hl
    exact ⟨_, C, _, _, v, rfl, (hid_some.mp h1).2, cl, na, hv, q v d2 n1 H1 s1 j1 rv k⟩
theorem we_meth {C : Addr} {m : Str} {S : L3.Spec} {dvs : List V} {dds : List D} {XE : XK} (hd : ∀ H, RpAll c.K H dvs dds)
    (h : WE c to ρ n fun n1 x => ∃ ds, x = .obj C ds ∧ ds.lookup m = none ∧ WA c as ρ n1 fun n2 es => S c.bag n2 (.obj C ds :: (es ++ dds)) Φ) : WE c (tMeth C m (spD c.K S) dvs XE to as) ρ n Φ := fun P L σ H Q E q => by
  refine h P L σ H _ E fun x d n1 H1 s1 j1 r1 ⟨ds, e, hn, ha⟩ => ?_
  subst e
  have E1 := E.step s1 j1
  cases r1 with
  | obj h1 hf =>
    refine ⟨_, _, _, rfl, (hid_some.mp h1).2, hf.none hn, ?_⟩
    refine ha P L σ H1 _ E1 fun vs es n2 H2 s2 j2 r2 k => ?_
    have E2 := E1.step s2 j2
    refine ⟨L ++ c.O, c.bag, n2, _, Φ, fun b q hb => ⟨j2 b q hb, List.mem_append_right _ (E.bO b q hb).1, List.mem_append_right _ (E.bO b q hb).2.1, (E.bO b q hb).2.2⟩, E2.alLO, .cons ((Rp.obj h1 hf).mono (E1.sameLO s2)) (r2.append (hd _)), k, fun v d n3 H3 s3 j3 r3 k3 => ?_⟩
    exact q v d n3 H3 ((s1.trans s2).trans s3) j3 r3 k3
/-- what an __init__ promises, over data -/
abbrev SpecI := Option (Addr × Addr) → Nat → List D → (Nat → List (Str × D) → Prop) → Prop
def spI (K : PySem.W.Frag) (C : Addr) (S : SpecI) : Sp := fun vs H Q _ => ∃ (O : List Addr) (bag : Option (Addr × Addr)) (n : Nat) (ds : List D) (Φ : Nat → List (Str × D) → Prop) (p dx : Addr) (ws : List V),
  vs = .ref p :: ws ∧ H p = some (.ins C dx []) ∧ p ∉ O ∧ (∀ b q, bag = some (b, q) → BagOk b q n H ∧ b ∈ O ∧ q ∈ O ∧ q ≠ b) ∧ (∀ o ∈ O, H o ≠ none) ∧ RpAll K (hid (p :: O) H) ws ds ∧ S bag n ds Φ ∧
  ∀ fs ks n' H', Same (hid (p :: (bag.map (·.1)).toList) H) (hid (p :: (bag.map (·.1)).toList) H') → (∀ b q, bag = some (b, q) → BagOk b q n' H') → H' p = some (.ins C dx fs) → RpFs K (hid (p :: O) H') fs ks → Φ n' ks → Q .non H'
theorem we_make {C : Addr} {S : SpecI} {dvs : List V} {dds : List D} {XE : XK} (hd : ∀ H, RpAll c.K H dvs dds) (h : WA c as ρ n fun n1 ds => S c.bag n1 (ds ++ dds) fun n2 ks => Φ n2 (.obj C ks)) : WE c (tMake C (spI c.K C S) dvs XE as) ρ n Φ := fun P L σ H Q E q => by
  refine h P L σ H _ E fun vs ds n1 H1 s1 j1 r1 k => ?_
  have E1 := E.step s1 j1
  intro x dx nx ndx nex
  have xO : x ∉ L ++ c.O := E1.noO x nx
  have keep : ∀ a o, H1 a = some o → (upd (upd H1 dx (.own x)) x (.ins C dx [])) a = some o := fun a o e => by
    rw [upd_ne (fun z : a = x => by rw [z, nx] at e; cases e), upd_ne (fun z : a = dx => by rw [z, ndx] at e; cases e)]
    exact e
  have sm : Same (hid (L ++ c.O) H1) (hid (x :: (L ++ c.O)) (upd (upd H1 dx (.own x)) x (.ins C dx []))) := fun a o e => by
    obtain ⟨e1, e2⟩ := hid_some.mp e
    refine hid_some.mpr ⟨fun z => ?_, keep a o e2⟩
    rcases List.mem_cons.mp z with z | z
    · rw [z, nx] at e2; cases e2
    · exact e1 z
  refine ⟨L ++ c.O, c.bag, n1, ds ++ dds, _, x, dx, vs ++ dvs, rfl, upd_same, xO, fun b q hb => ⟨(j1 b q hb).move (fun o e => keep b o e) (fun o e => keep q o e), List.mem_append_right _ (E.bO b q hb).1, List.mem_append_right _ (E.bO b q hb).2.1, (E.bO b q hb).2.2⟩, fun o ho => ?_, (r1.mono sm).append (hd _), k, fun fs ks n2 H3 s3 j3 hx hf kk => ⟨rfl, ?_⟩⟩
  · cases e : H1 o with
    | none => exact absurd e (E1.alLO o ho)
    | some u => rw [keep o u e]; exact fun z => nomatch z
  · refine q (.ref x) (.obj C ks) n2 H3 (s1.trans fun a o e => ?_) j3 (.obj (dx := dx) (hid_some.mpr ⟨xO, hx⟩) (hf.mono (same_hid_sub fun a ha => List.mem_cons_of_mem _ ha))) kk
    obtain ⟨e1, e2⟩ := hid_some.mp e
    have ne : a ≠ x := fun z => by rw [z, nx] at e2; cases e2
    have z := s3 a o (hid_some.mpr ⟨fun z => by
      rcases List.mem_cons.mp z with z | z
      · exact ne z
      · exact e1 z, keep a o e2⟩)
    exact hid_some.mpr ⟨e1, (hid_some.mp z).2⟩
end
end L3
/-! L3n: __init__: field by field. -/
namespace L3
open PySem L2
abbrev bagB (bag : Option (Addr × Addr)) : List Addr := (bag.map (·.1)).toList
def flat : List SD → Bool
  | [] => true
  | .un :: r => flat r
  | .val _ :: r => flat r
  | _ :: _ => false
theorem Slots.flat {pr : Program} {wd : World} {K : PySem.W.Frag} {O : List Addr} {H : Hp} : ∀ {σ : List (Option V)} {ρ : List SD} {L : List Addr}, Slots pr wd K O H σ ρ L → L3.flat ρ = true → L = []
  | _, _, _, .nil, _ => rfl
  | _, _, _, .un s, h => Slots.flat s h
  | _, _, _, .val _ s, h => Slots.flat s h
  | _, _, _, .own _ _ _, h => by cases h
  | _, _, _, .dic _ _, h => by cases h
  | _, _, _, .dk _ _, h => by cases h
  | _, _, _, .tw _ _, h => by cases h
  | _, _, _, .ot _ _ _, h => by cases h
/-- any statement that is never reached -/
theorem ps_never {X : Cx} {st : Stmt} : PS X st (fun _ _ _ => False) := ⟨fun _ _ _ _ _ _ h => h.elim⟩
section
variable {P : Program} {w : World} {K : PySem.W.Frag} {mg : Str → Option Value} {base : Heap} {O : List Addr} {bag : Option (Addr × Addr)} {p C dx : Addr} {ρ : List SD} {n : Nat} {ks : List (Str × D)} {Φ : Nat → List (Str × D) → Prop} {te : TE} {ts us : TS} {f : Str}
def WN (P : Program) (w : World) (K : PySem.W.Frag) (O : List Addr) (bag : Option (Addr × Addr)) (p C dx : Addr) (ts : TS) (ρ : List SD) (n : Nat) (ks : List (Str × D)) (Φ : Nat → List (Str × D) → Prop) : Prop :=
  ∀ (H : Hp) (σ : List (Option V)) (fs : List (Str × V)) (Dn : Ends), H p = some (.ins C dx fs) → p ∉ O → RpFs K (hid (p :: O) H) fs ks → Env ⟨P, w, K, p :: O, bag, H⟩ (fun _ => none) [] n H σ ρ →
  (∀ σ' fs' ks' n' H', Same (hid (p :: bagB bag) H) (hid (p :: bagB bag) H') → (∀ b q, bag = some (b, q) → BagOk b q n' H') → H' p = some (.ins C dx fs') → RpFs K (hid (p :: O) H') fs' ks' → Φ n' ks' → Dn.nx σ' H') → ts Dn σ H
/-- one store -/
theorem wn_go {H : Hp} {σ : List (Option V)} {fs : List (Str × V)} {Q : List (Option V) → Hp → Prop} {Dn : Ends} (cl : Cls K C) (na : NoAttr K C f) (hl : ks.length < 1000) (hs : ρ[0]? = some (.val (.adr p)))
    (hp : H p = some (.ins C dx fs)) (pO : p ∉ O) (hf : RpFs K (hid (p :: O) H) fs ks) (E : Env ⟨P, w, K, p :: O, bag, H⟩ (fun _ => none) [] n H σ ρ) {Ψ : Nat → D → Prop} (h : WE ⟨P, w, K, p :: O, bag, H⟩ te ρ n Ψ)
    (k : ∀ y d n1 H3, Ψ n1 d → Same (hid (p :: bagB bag) H) (hid (p :: bagB bag) H3) → H3 p = some (.ins C dx (putF f y fs)) → RpFs K (hid (p :: O) H3) (putF f y fs) (putFD f d ks) → Env ⟨P, w, K, p :: O, bag, H3⟩ (fun _ => none) [] n1 H3 σ ρ → Dn.nx σ H3) : sFld K (tVar 0) te f Dn σ H := by
  refine h (fun _ => none) [] σ H _ E fun y d n1 H1 s1 j1 r1 kk => ?_
  have E1 := E.step s1 j1
  refine we_var (c := ⟨P, w, K, p :: O, bag, H⟩) (n := n1) (Φ := fun m z => m = n1 ∧ z = .adr p) hs ⟨rfl, rfl⟩ (fun _ => none) [] σ H1 _ E1 fun x d2 n2 H2 s2 j2 r2 ⟨e1, e2⟩ => ?_
  subst e1; subst e2
  cases r2
  have E2 := E1.step s2 j2
  have s12 := s1.trans s2
  have pB : p ∉ bagB bag := fun z => by
    obtain ⟨q, hq⟩ := (mem_B (c := ⟨P, w, K, p :: O, bag, H⟩)).mp z
    obtain ⟨xs, hx⟩ := (E.bag p q hq).lst
    rw [hp] at hx; cases hx
  have hp2 : H2 p = some (.ins C dx fs) := (hid_some.mp (s12 p _ (hid_some.mpr ⟨pB, hp⟩))).2
  have hb : ∀ b q, bag = some (b, q) → BagOk b q n2 (upd H2 p (.ins C dx (putF f y fs))) := fun b q e => by
    have B := E2.bag b q e
    refine B.move (fun o ho => ?_) (fun o ho => ?_)
    · rw [upd_ne (fun z : b = p => by obtain ⟨xs, hx⟩ := B.lst; rw [z, hp2] at hx; cases hx)]; exact ho
    · rw [upd_ne (fun z : q = p => by obtain ⟨_, _, _, _, hx, _⟩ := B; rw [z, hp2] at hx; cases hx)]; exact ho
  have hh : hid (p :: O) (upd H2 p (.ins C dx (putF f y fs))) = hid (p :: O) H2 := hid_upd_in List.mem_cons_self
  refine ⟨p, C, dx, fs, rfl, hp2, cl, na, by rw [hf.length]; exact hl, ?_⟩
  refine k y d n2 _ kk (fun a o e => ?_) upd_same ?_ ?_
  · obtain ⟨e1, e2⟩ := hid_some.mp e
    have ne : a ≠ p := fun z => e1 (z ▸ List.mem_cons_self)
    have z := s12 a o (hid_some.mpr ⟨fun z => e1 (List.mem_cons_of_mem _ z), e2⟩)
    exact hid_some.mpr ⟨e1, by rw [upd_ne ne]; exact (hid_some.mp z).2⟩
  · rw [hh]
    exact ((hf.mono (E.sameLO s12)).put (r1.mono (E1.sameLO s2)))
  · obtain ⟨Ls, sl, sb⟩ := E2.slots
    have eL : Ls = [] := List.eq_nil_of_sublist_nil sb
    subst eL
    exact { nd := List.nodup_nil, fresh := (fun l hl => nomatch hl), slots := ⟨[], sl.move (fun l hl => nomatch hl) (by show Same (hid (p :: O) H2) (hid (p :: O) _); rw [hh]; exact Same.refl _), List.Sublist.refl _⟩, lst := (fun l hl => nomatch hl), bag := hb, base := Same.refl _,
            pers := (fun _ _ e => nomatch e), bO := E2.bO, al := fun o ho => by
              by_cases z : o = p
              · rw [z, upd_same]; exact fun z => nomatch z
              · rw [upd_ne z]; exact E2.al o ho }
theorem wn_st (cl : Cls K C) (na : NoAttr K C f) (hl : ks.length < 1000) (hs : ρ[0]? = some (.val (.adr p))) (h : ∀ H0, WE ⟨P, w, K, p :: O, bag, H0⟩ te ρ n fun n1 d => Φ n1 (putFD f d ks)) : WN P w K O bag p C dx (sFld K (tVar 0) te f) ρ n ks Φ := fun H σ fs Dn hp pO hf E q =>
  wn_go (Q := fun _ _ => True) cl na hl hs hp pO hf E (h H) fun y d n1 H3 kk s hp3 hf3 E3 => q σ _ _ n1 H3 s E3.bag hp3 hf3 kk
theorem wn_seq (cl : Cls K C) (na : NoAttr K C f) (hl : ks.length < 1000) (hs : ρ[0]? = some (.val (.adr p))) (h : ∀ H0, WE ⟨P, w, K, p :: O, bag, H0⟩ te ρ n fun n1 d => WN P w K O bag p C dx us ρ n1 (putFD f d ks) Φ) : WN P w K O bag p C dx (tSeq (sFld K (tVar 0) te f) us) ρ n ks Φ := fun H σ fs Dn hp pO hf E q =>
  wn_go (Q := fun _ _ => True) (Dn := { Dn with nx := us Dn }) cl na hl hs hp pO hf E (h H) fun y d n1 H3 kk s hp3 hf3 E3 => kk H3 σ _ Dn hp3 pO hf3 E3 fun σ' fs' ks' n' H' s' b' hp' hf' kk' => q σ' fs' ks' n' H' (s.trans s') b' hp' hf' kk'
/-- statements ahead of the stores -/
theorem wn_pre (h : ∀ H0, WS ⟨P, w, K, p :: O, bag, H0⟩ ts ρ n { nx := fun n1 ρ1 => flat ρ1 = true ∧ WN P w K O bag p C dx us ρ1 n1 ks Φ, rt := fun _ _ => False }) : WN P w K O bag p C dx (tSeq ts us) ρ n ks Φ := fun H σ fs Dn hp pO hf E q => by
  refine h H (fun _ => none) [] σ H { Dn with nx := us Dn } E { nx := fun L n1 H1 σ1 ρ1 E1 ⟨hfl, hn⟩ => ?_, rt := fun _ _ _ _ _ _ _ h => h.elim, bk := fun _ _ _ _ _ _ h => h.elim, ct := fun _ _ _ _ _ _ h => h.elim }
  have pB : p ∉ bagB bag := fun z => by
    obtain ⟨q, hq⟩ := (mem_B (c := ⟨P, w, K, p :: O, bag, H⟩)).mp z
    obtain ⟨xs, hx⟩ := (E.bag p q hq).lst
    rw [hp] at hx; cases hx
  have hp1 : H1 p = some (.ins C dx fs) := (hid_some.mp (E1.base p _ (hid_some.mpr ⟨pB, hp⟩))).2
  have bO : ∀ a, a ∈ bagB bag → a ∈ p :: O := fun a ha => E.inO (show a ∈ (⟨P, w, K, p :: O, bag, H⟩ : Ctx).B from ha)
  have s0 : Same (hid (p :: O) H) (hid (p :: O) H1) := same_hid_more bO E1.base
  obtain ⟨Ls, sl, sb⟩ := E1.slots
  have eL := sl.flat hfl
  subst eL
  refine hn H1 σ1 fs Dn hp1 pO (hf.mono s0) ?_ fun σ' fs' ks' n' H' s' b' hp' hf' kk' => q σ' fs' ks' n' H' ((same_hid_more (fun a ha => List.mem_cons_of_mem _ ha) E1.base).trans s') b' hp' hf' kk'
  exact { nd := List.nodup_nil, fresh := (fun l hl => nomatch hl), slots := ⟨[], sl.move (fun l hl => nomatch hl) (same_hid_sub fun a ha => List.mem_append_right _ ha), List.Sublist.refl _⟩, lst := (fun l hl => nomatch hl), bag := E1.bag, base := Same.refl _,
          pers := (fun _ _ e => nomatch e), bO := E1.bO, al := E1.al }
/-- THE RULE for an __init__, over data -/
theorem fn_I {x qual : Str} {st : Stmt} {fa : Addr} {fd : FuncData} {N ps : List Str} {k : Nat} {S : SpecI} (F : Fun K x qual st fa fd) (sc : FnScope N ps (defScope st))
    (len : ∀ bag n ds Φ, S bag n ds Φ → ds.length + 1 = ps.length)
    (body : ∀ (cdv : Value) (A : Around) (outer : List PySem.Env) (s : Shared) (H : Hp) (E : XK) (O : List Addr) (bag : Option (Addr × Addr)) (n : Nat) (ds : List D) (Φ : Nat → List (Str × D) → Prop) (p dx : Addr), Room k (A.deeper (PyProof.Rows.envOfC qual (defScope st) s.heap.objs.size fa cdv)) → S bag n ds Φ →
      ∃ t, PSs (cxOf CX0 P w K mg base N qual (defScope st) fa cdv A outer s H E).nox (defBody st) t ∧ WN P w K O bag p C dx t (rho N (.adr p :: ds)) n [] Φ) :
    FnOk P w K mg base CX0 (k + 1) fa fd ps (spI K C S) := by
  refine F.ok sc (fun vs H Q E h => ?_) (fun cdv A outer s H vs Q E hr h => ?_)
  · obtain ⟨O, bag, n, ds, Φ, p, dx, ws, rfl, _, _, _, _, r, hS, _⟩ := h
    rw [List.length_cons, r.length]; exact len bag n ds Φ hS
  · obtain ⟨O, bag, n, ds, Φ, p, dx, ws, rfl, hp, pO, hb, hO, r, hS, q⟩ := h
    obtain ⟨t, ht, W⟩ := body cdv A outer s H E O bag n ds Φ p dx hr hS
    refine ⟨t, ht, W H _ [] _ hp pO .nil ?_ fun σ' fs' ks' n' H' s' b' hp' hf' kk' => q fs' ks' n' H' s' b' hp' hf' kk'⟩
    have r' : RpAll K (hid (p :: O) H) (.ref p :: ws) (.adr p :: ds) := .cons (.adr p) r
    have e : L2.start N (.ref p :: ws) = (.ref p :: ws).map some ++ List.replicate (N.length - (D.adr p :: ds).length) none := by unfold L2.start; rw [r'.length]
    exact { nd := List.nodup_nil, fresh := (fun l hl => nomatch hl), slots := ⟨[], by rw [e]; exact slots_start r', List.Sublist.refl _⟩, lst := (fun l hl => nomatch hl), bag := fun b q e => (hb b q e).1, base := Same.refl _,
            pers := (fun _ _ e => nomatch e), bO := fun b q e => ⟨List.mem_cons_of_mem _ (hb b q e).2.1, List.mem_cons_of_mem _ (hb b q e).2.2.1, (hb b q e).2.2.2⟩,
            al := fun o ho => by
              rcases List.mem_cons.mp ho with z | z
              · rw [z, hp]; exact fun z => nomatch z
              · exact hO o z }
end
end L3
/-! L3o: dicts with int and text keys: as data, as one's own. -/
namespace L3
open PySem L2
section
variable {c : Ctx} {ρ : List SD} {n : Nat} {ta tb te td ty tx : TE} {t u : TT} {as : TA} {Φ : Nat → D → Prop} {Ψ : Out} {ts us : TS}
def keyK : D → Option L2.Key
  | .int i => some (.inl i)
  | .str x => some (.inr x)
  | _ => none
theorem keyK_V {K : PySem.W.Frag} {H : Hp} {v : V} {d : D} {k : L2.Key} (r : Rp K H v d) (h : keyK d = some k) : v = kV k := by
  cases r <;> first | (cases h; rfl) | cases h
def lookK (kvs : List (L2.Key × D)) (k : L2.Key) : Option D := (kvs.find? fun kv => decide (kv.1 = k)).map (·.2)
def putKD (kvs : List (L2.Key × D)) (k : L2.Key) (d : D) : List (L2.Key × D) := if (kvs.any fun kv => decide (kv.1 = k)) = true then kvs.map (fun kv => if kv.1 = k then (kv.1, d) else kv) else kvs ++ [(k, d)]
section
variable {K : PySem.W.Frag} {H : Hp}
theorem RpKs.length : ∀ {xs : List (L2.Key × V)} {kvs : List (L2.Key × D)}, RpKs K H xs kvs → xs.length = kvs.length
  | _, _, .nil => rfl
  | _, _, .cons _ r => by rw [List.length_cons, List.length_cons, r.length]
theorem RpKs.look {k : L2.Key} : ∀ {xs : List (L2.Key × V)} {kvs : List (L2.Key × D)}, RpKs K H xs kvs → (∀ d, lookK kvs k = some d → ∃ v, valV xs k = some v ∧ Rp K H v d) ∧ (lookK kvs k = none → valV xs k = none)
  | _, _, .nil => ⟨fun d e => by simp [lookK] at e, fun _ => rfl⟩
  | _, _, .cons (x := x) h r => by
    obtain ⟨i1, i2⟩ := RpKs.look (k := k) r
    unfold lookK valV at *
    by_cases q : x = k
    · subst q
      simp only [List.find?_cons, decide_true]
      exact ⟨fun d e => by cases e; exact ⟨_, rfl, h⟩, fun e => by cases e⟩
    · simp only [List.find?_cons, decide_eq_false q]
      exact ⟨i1, i2⟩
theorem RpKs.any {k : L2.Key} : ∀ {xs : List (L2.Key × V)} {kvs : List (L2.Key × D)}, RpKs K H xs kvs → (xs.any fun kv => decide (kv.1 = k)) = kvs.any fun kv => decide (kv.1 = k)
  | _, _, .nil => rfl
  | _, _, .cons _ r => by rw [List.any_cons, List.any_cons, r.any]
theorem RpKs.repl {k : L2.Key} {v : V} {d : D} (h : Rp K H v d) : ∀ {xs : List (L2.Key × V)} {kvs : List (L2.Key × D)}, RpKs K H xs kvs → RpKs K H (xs.map fun kv => if kv.1 = k then (kv.1, v) else kv) (kvs.map fun kv => if kv.1 = k then (kv.1, d) else kv)
  | _, _, .nil => .nil
  | _, _, .cons (x := x) (v := v0) (vs := vs) (d := d0) (ds := ds) h0 r => by
    have ih := RpKs.repl (k := k) h r
    show RpKs K H ((if x = k then (x, v) else (x, v0)) :: _) ((if x = k then (x, d) else (x, d0)) :: _)
    by_cases q : x = k
    · rw [if_pos q, if_pos q]; exact .cons h ih
    · rw [if_neg q, if_neg q]; exact .cons h0 ih
theorem RpKs.snoc {k : L2.Key} {v : V} {d : D} (h : Rp K H v d) : ∀ {xs : List (L2.Key × V)} {kvs : List (L2.Key × D)}, RpKs K H xs kvs → RpKs K H (xs ++ [(k, v)]) (kvs ++ [(k, d)])
  | _, _, .nil => .cons h .nil
  | _, _, .cons h0 r => .cons h0 (RpKs.snoc h r)
theorem RpKs.put {k : L2.Key} {v : V} {d : D} (h : Rp K H v d) {xs : List (L2.Key × V)} {kvs : List (L2.Key × D)} (r : RpKs K H xs kvs) : RpKs K H (putK xs k v) (putKD kvs k d) := by
  unfold putK putKD
  rw [r.any]
  by_cases q : (kvs.any fun kv => decide (kv.1 = k)) = true
  · rw [if_pos q, if_pos q]; exact r.repl h
  · rw [if_neg q, if_neg q]; exact r.snoc h
end
theorem Slots.freezeK {pr : Program} {wd : World} {K : PySem.W.Frag} {O : List Addr} {H : Hp} {kvs : List (L2.Key × D)} : ∀ {σ : List (Option V)} {ρ : List SD} {L : List Addr} {i : Nat}, Slots pr wd K O H σ ρ L → ρ[i]? = some (.dk kvs) → ∃ L1 l L2 xs, L = L1 ++ l :: L2 ∧ H l = some (.dK xs) ∧ RpKs K (hid O H) xs kvs ∧
    ∀ O' , Same (hid O H) (hid O' H) → l ∉ O' → Slots pr wd K O' H σ (ρ.set i (.val (.dct kvs))) (L1 ++ L2)
  | _, _, _, _, .nil, e => by simp at e
  | _, _, _, 0, .un _, e => by simp at e
  | _, _, _, i + 1, .un s, e => by
    obtain ⟨L1, l, L2, xs, h1, h2, h3, h4⟩ := Slots.freezeK (i := i) s (by simpa using e)
    exact ⟨L1, l, L2, xs, h1, h2, h3, fun O' a b => .un (h4 O' a b)⟩
  | _, _, _, 0, .val _ _, e => by simp at e
  | _, _, _, i + 1, .val r s, e => by
    obtain ⟨L1, l, L2, xs, h1, h2, h3, h4⟩ := Slots.freezeK (i := i) s (by simpa using e)
    exact ⟨L1, l, L2, xs, h1, h2, h3, fun O' a b => .val (r.mono a) (h4 O' a b)⟩
  | _, _, _, 0, .own h r s, e => by simp at e
  | _, _, _, i + 1, .own h r s, e => by
    obtain ⟨L1, l, L2, xs, h1, h2, h3, h4⟩ := Slots.freezeK (i := i) s (by simpa using e)
    exact ⟨_ :: L1, l, L2, xs, by rw [h1]; rfl, h2, h3, fun O' a b => .own h (r.mono a) (h4 O' a b)⟩
  | _, _, _, 0, .dic _ _, e => by simp at e
  | _, _, _, 0, .dk ⟨xs, h, r⟩ s, e => by
    simp at e
    subst e
    exact ⟨[], _, _, _, rfl, h, r, fun O' a b => .val (.dct (.inl (by rw [hid_out b]; exact h)) (r.mono a)) (s.move (fun _ _ => rfl) a)⟩
  | _, _, _, 0, .tw h s, e => by simp at e
  | _, _, _, i + 1, .dic h s, e => by
    obtain ⟨L1, l, L2, xs, h1, h2, h3, h4⟩ := Slots.freezeK (i := i) s (by simpa using e)
    exact ⟨_ :: L1, l, L2, xs, by rw [h1]; rfl, h2, h3, fun O' a b => .dic (h.move rfl a) (h4 O' a b)⟩
  | _, _, _, i + 1, .dk h s, e => by
    obtain ⟨L1, l, L2, xs, h1, h2, h3, h4⟩ := Slots.freezeK (i := i) s (by simpa using e)
    exact ⟨_ :: L1, l, L2, xs, by rw [h1]; rfl, h2, h3, fun O' a b => .dk (h.move rfl a) (h4 O' a b)⟩
  | _, _, _, i + 1, .tw h s, e => by
    obtain ⟨L1, l, L2, xs, h1, h2, h3, h4⟩ := Slots.freezeK (i := i) s (by simpa using e)
    exact ⟨_ :: L1, l, L2, xs, by rw [h1]; rfl, h2, h3, fun O' a b => .tw (h.move rfl a) (h4 O' a b)⟩
  | _, _, _, 0, .ot _ _ _, e => by simp at e
  | _, _, _, i + 1, .ot h q s, e => by
    obtain ⟨L1, l, L2, xs, h1, h2, h3, h4⟩ := Slots.freezeK (i := i) s (by simpa using e)
    exact ⟨_, l, L2, xs, by rw [q, h1, List.append_assoc], h2, h3, fun O' a b => .ot (OT.mv _ h (fun _ _ => rfl) fun _ _ r => r.mono a) (List.append_assoc _ _ _) (h4 O' a b)⟩
theorem Env.freezeK {P : Hp} {L : List Addr} {n : Nat} {H : Hp} {σ : List (Option V)} {i : Nat} {kvs : List (L2.Key × D)} (E : Env c P L n H σ ρ) (h : ρ[i]? = some (.dk kvs)) : ∃ L', Env c P L' n H σ (ρ.set i (.val (.dct kvs))) ∧ L'.Sublist L := by
  obtain ⟨Ls, sl, sb⟩ := E.slots
  obtain ⟨L1, l, L2, xs, h1, h2, h3, h4⟩ := sl.freezeK h
  have lL : l ∈ L := sb.subset (by rw [h1]; simp)
  have sub : (L.erase l).Sublist L := List.erase_sublist
  have nl : l ∉ L.erase l := E.nd.not_mem_erase
  have sb2 : (L1 ++ L2).Sublist (L.erase l) := by
    have nd := sb.nodup E.nd
    rw [h1] at nd
    have n1 : l ∉ L1 := fun q => by
      have := (List.nodup_append.mp nd).2.2 l q l List.mem_cons_self
      exact this rfl
    have q : (Ls.erase l).Sublist (L.erase l) := sb.erase l
    rw [h1, List.erase_append_right _ n1, List.erase_cons_head] at q
    exact q
  have nO : l ∉ (L.erase l) ++ c.O := fun q => by
    rcases List.mem_append.mp q with q | q
    · exact nl q
    · exact (E.fresh l lL).2 q
  have se : Same (hid (L ++ c.O) H) (hid ((L.erase l) ++ c.O) H) := same_hid_sub fun a ha => by
    rcases List.mem_append.mp ha with q | q
    · exact List.mem_append_left _ (sub.subset q)
    · exact List.mem_append_right _ q
  exact ⟨L.erase l, { nd := sub.nodup E.nd, fresh := fun l hl => E.fresh l (sub.subset hl), slots := ⟨_, h4 _ se nO, sb2⟩, lst := fun l hl => E.lst l (sub.subset hl), base := E.base, pers := E.pers.trans se, bO := E.bO, al := E.al, bag := E.bag }, sub⟩
theorem Slots.dk_at {pr : Program} {wd : World} {K : PySem.W.Frag} {O : List Addr} {H : Hp} {kvs lvs : List (L2.Key × D)} : ∀ {σ : List (Option V)} {ρ : List SD} {L : List Addr} {i : Nat}, Slots pr wd K O H σ ρ L → L.Nodup → ρ[i]? = some (.dk kvs) → ∃ l, σ[i]? = some (some (.ref l)) ∧ l ∈ L ∧ KDict pr wd K O H l kvs ∧
    ∀ (o : HO), KDict pr wd K O (upd H l o) l lvs → hid O (upd H l o) = hid O H → Slots pr wd K O (upd H l o) σ (ρ.set i (.dk lvs)) L
  | _, _, _, _, .nil, _, e => by simp at e
  | _, _, _, 0, .un _, _, e => by simp at e
  | _, _, _, i + 1, .un s, nd, e => by
    obtain ⟨l, h1, h2, h3, h5⟩ := Slots.dk_at (i := i) s nd (by simpa using e)
    exact ⟨l, by simpa using h1, h2, h3, fun ys a b => .un (h5 ys a b)⟩
  | _, _, _, 0, .val _ _, _, e => by simp at e
  | _, _, _, i + 1, .val r s, nd, e => by
    obtain ⟨l, h1, h2, h3, h5⟩ := Slots.dk_at (i := i) s nd (by simpa using e)
    exact ⟨l, by simpa using h1, h2, h3, fun ys a b => .val (by rw [b]; exact r) (h5 ys a b)⟩
  | _, _, _, 0, .own _ _ _, _, e => by simp at e
  | _, _, _, i + 1, .own h r s, nd, e => by
    obtain ⟨l, h1, h2, h3, h5⟩ := Slots.dk_at (i := i) s (List.nodup_cons.mp nd).2 (by simpa using e)
    exact ⟨l, by simpa using h1, List.mem_cons_of_mem _ h2, h3, fun ys a b => .own ((upd_ne fun e => (List.nodup_cons.mp nd).1 (by rw [e]; exact h2)).trans h) (by rw [b]; exact r) (h5 ys a b)⟩
  | _, _, _, 0, .dic h s, nd, e => by simp at e
  | _, _, _, 0, .dk h s, nd, e => by
    simp at e
    subst e
    exact ⟨_, rfl, List.mem_cons_self, h, fun ys a b => .dk a (s.move (fun l hl => upd_ne fun e => (List.nodup_cons.mp nd).1 (by rw [← e]; exact hl)) (by rw [b]; exact Same.refl _))⟩
  | _, _, _, 0, .tw h s, nd, e => by simp at e
  | _, _, _, i + 1, .dic h s, nd, e => by
    obtain ⟨l, h1, h2, h3, h5⟩ := Slots.dk_at (i := i) s (List.nodup_cons.mp nd).2 (by simpa using e)
    exact ⟨l, by simpa using h1, List.mem_cons_of_mem _ h2, h3, fun ys a b => .dic (h.move (upd_ne fun e => (List.nodup_cons.mp nd).1 (by rw [e]; exact h2)) (by rw [b]; exact Same.refl _)) (h5 ys a b)⟩
  | _, _, _, i + 1, .dk h s, nd, e => by
    obtain ⟨l, h1, h2, h3, h5⟩ := Slots.dk_at (i := i) s (List.nodup_cons.mp nd).2 (by simpa using e)
    exact ⟨l, by simpa using h1, List.mem_cons_of_mem _ h2, h3, fun ys a b => .dk (h.move (upd_ne fun e => (List.nodup_cons.mp nd).1 (by rw [e]; exact h2)) (by rw [b]; exact Same.refl _)) (h5 ys a b)⟩
  | _, _, _, i + 1, .tw h s, nd, e => by
    obtain ⟨l, h1, h2, h3, h5⟩ := Slots.dk_at (i := i) s (List.nodup_cons.mp nd).2 (by simpa using e)
    exact ⟨l, by simpa using h1, List.mem_cons_of_mem _ h2, h3, fun ys a b => .tw (h.move (upd_ne fun e => (List.nodup_cons.mp nd).1 (by rw [e]; exact h2)) (by rw [b]; exact Same.refl _)) (h5 ys a b)⟩
  | _, _, _, 0, .ot _ _ _, _, e => by simp at e
  | _, _, _, i + 1, .ot h q s, nd, e => by
    subst q
    obtain ⟨l, h1, h2, h3, h5⟩ := Slots.dk_at (i := i) s (List.nodup_append.mp nd).2.1 (by simpa using e)
    exact ⟨l, by simpa using h1, List.mem_append_right _ h2, h3, fun ys a b => .ot (OT.mv _ h (fun x hx => upd_ne fun e => (List.nodup_append.mp nd).2.2 x hx _ h2 e) fun v d r => by rw [b]; exact r) rfl (h5 ys a b)⟩
theorem Env.dk_at {P : Hp} {L : List Addr} {n : Nat} {H : Hp} {σ : List (Option V)} {i : Nat} {kvs : List (L2.Key × D)} (E : Env c P L n H σ ρ) (h : ρ[i]? = some (.dk kvs)) : ∃ l, σ[i]? = some (some (.ref l)) ∧ l ∈ L ++ c.O ∧ KDict c.pr c.wd c.K (L ++ c.O) H l kvs ∧
    ∀ (o : HO) (lvs : List (L2.Key × D)), KDict c.pr c.wd c.K (L ++ c.O) (upd H l o) l lvs → Env c P L n (upd H l o) σ (ρ.set i (.dk lvs)) := by
  obtain ⟨Ls, sl, sb⟩ := E.slots
  have nd := sb.nodup E.nd
  obtain ⟨l, h1, h2, h3, _⟩ := sl.dk_at (lvs := kvs) nd h
  have lL := sb.subset h2
  have hm : l ∈ L ++ c.O := List.mem_append_left _ lL
  have hO : l ∉ c.O := (E.fresh l lL).2
  refine ⟨l, h1, hm, h3, fun o lvs hy => ?_⟩
  have bs : Same (hid c.B c.H0) (hid c.B (upd H l o)) := same_upd_old (E.fresh l lL).1 E.base
  obtain ⟨l', g1, g2, g3, g5⟩ := sl.dk_at (lvs := lvs) nd h
  rw [h1] at g1
  cases g1
  exact { nd := E.nd, fresh := E.fresh, slots := ⟨Ls, g5 o hy (hid_upd_in hm), sb⟩,
          lst := fun a ha => by
            by_cases e : a = l
            · exact ⟨_, by rw [e, upd_same]⟩
            · rw [upd_ne e]; exact E.lst a ha,
          bag := fun b q hb => (E.bag b q hb).move (fun o h => by rw [upd_ne fun e : b = l => hO (e ▸ (E.bO b q hb).1)]; exact h) fun o h => by rw [upd_ne fun e : q = l => hO (e ▸ (E.bO b q hb).2.1)]; exact h,
          base := bs, pers := by rw [hid_upd_in hm]; exact E.pers, bO := E.bO,
          al := fun o ho => by rw [upd_ne fun e : o = l => hO (e ▸ ho)]; exact E.al o ho }
/-! a dict as data -/
theorem we_dget1 (h : WE c td ρ n fun n1 x => ∃ kvs, x = .dct kvs ∧ WE c ty ρ n1 fun n2 y => ∃ k, keyK y = some k ∧ ∃ d, lookK kvs k = some d ∧ Φ n2 d) : WE c (tDGet td ty) ρ n Φ := fun P L σ H Q E q => by
  refine h P L σ H _ E fun x d n1 H1 s1 j1 r1 ⟨kvs, e, h1⟩ => ?_
  subst e
  have E1 := E.step s1 j1
  refine h1 P L σ H1 _ E1 fun y dy n2 H2 s2 j2 r2 ⟨k, hk, d, hl, kk⟩ => ?_
  have r3 := r1.mono (E1.sameLO s2)
  cases r3 with
  | dct hs rk =>
    obtain ⟨v, hv, rv⟩ := rk.look.1 d hl
    exact ⟨_, v, rfl, .inl ⟨_, k, same_rd same_hid hs, keyK_V r2 hk, hv.symm⟩, q v d n2 H2 (s1.trans s2) j2 rv kk⟩
theorem we_din (h : WE c ty ρ n fun n1 y => WE c td ρ n1 fun n2 x => ∃ kvs k, x = .dct kvs ∧ keyK y = some k ∧ Φ n2 (.bl (lookK kvs k).isSome)) : WE c (tDIn ty td) ρ n Φ := fun P L σ H Q E q => by
  refine h P L σ H _ E fun y dy n1 H1 s1 j1 r1 h1 => ?_
  have E1 := E.step s1 j1
  refine h1 P L σ H1 _ E1 fun x d n2 H2 s2 j2 r2 ⟨kvs, k, e, hk, kk⟩ => ?_
  subst e
  cases r2 with
  | dct hs rk =>
    refine ⟨_, _, rfl, .inl ⟨_, k, same_rd same_hid hs, keyK_V (r1.mono (E1.sameLO s2)) hk, rfl⟩, ?_⟩
    cases hl : lookK kvs k with
    | none => rw [rk.look.2 hl]; rw [hl] at kk; exact q _ _ n2 H2 (s1.trans s2) j2 (.bl _) kk
    | some d =>
      obtain ⟨v, hv, _⟩ := rk.look.1 d hl
      rw [hv]; rw [hl] at kk; exact q _ _ n2 H2 (s1.trans s2) j2 (.bl _) kk
theorem we_dnin (h : WE c ty ρ n fun n1 y => WE c td ρ n1 fun n2 x => ∃ kvs k, x = .dct kvs ∧ keyK y = some k ∧ Φ n2 (.bl (!(lookK kvs k).isSome))) : WE c (tDNotIn ty td) ρ n Φ := fun P L σ H Q E q => by
  refine h P L σ H _ E fun y dy n1 H1 s1 j1 r1 h1 => ?_
  have E1 := E.step s1 j1
  refine h1 P L σ H1 _ E1 fun x d n2 H2 s2 j2 r2 ⟨kvs, k, e, hk, kk⟩ => ?_
  subst e
  cases r2 with
  | dct hs rk =>
    refine ⟨_, _, rfl, .inl ⟨_, k, same_rd same_hid hs, keyK_V (r1.mono (E1.sameLO s2)) hk, rfl⟩, ?_⟩
    cases hl : lookK kvs k with
    | none => rw [rk.look.2 hl]; rw [hl] at kk; exact q _ _ n2 H2 (s1.trans s2) j2 (.bl _) kk
    | some d =>
      obtain ⟨v, hv, _⟩ := rk.look.1 d hl
      rw [hv]; rw [hl] at kk; exact q _ _ n2 H2 (s1.trans s2) j2 (.bl _) kk
theorem we_dget2 (h : WE c td ρ n fun n1 x => ∃ kvs, x = .dct kvs ∧ WE c ty ρ n1 fun n2 y => WE c tx ρ n2 fun n3 z => ∃ k, keyK y = some k ∧ Φ n3 ((lookK kvs k).getD z)) : WE c (tDGet2 td ty tx) ρ n Φ := fun P L σ H Q E q => by
  refine h P L σ H _ E fun x d n1 H1 s1 j1 r1 ⟨kvs, e, h1⟩ => ?_
  subst e
  have E1 := E.step s1 j1
  cases r1 with
  | dct hs0 rk0 =>
    have r1 : Rp c.K (hid (L ++ c.O) H1) (.ref _) (.dct kvs) := .dct hs0 rk0
    refine ⟨_, rfl, .inl ⟨_, same_rd same_hid hs0⟩, ?_⟩
    refine h1 P L σ H1 _ E1 fun y dy n2 H2 s2 j2 r2 h2 => ?_
    have E2 := E1.step s2 j2
    refine h2 P L σ H2 _ E2 fun z dz n3 H3 s3 j3 r3 ⟨k, hk, kk⟩ => ?_
    have r4 := (r1.mono (E1.sameLO s2)).mono (E2.sameLO s3)
    cases r4 with
    | dct hs rk =>
      refine ⟨_, .inl ⟨_, k, same_rd same_hid hs, keyK_V (r2.mono (E2.sameLO s3)) hk, rfl⟩, ?_⟩
      have s := (s1.trans s2).trans s3
      cases hl : lookK kvs k with
      | none => rw [rk.look.2 hl]; rw [hl] at kk; exact q _ _ n3 H3 s j3 r3 kk
      | some d =>
        obtain ⟨v, hv, rv⟩ := rk.look.1 d hl
        rw [hv]; rw [hl] at kk; exact q _ _ n3 H3 s j3 rv kk
section
variable {pr : Program} {wd : World} {K : PySem.W.Frag} {O : List Addr} {H : Hp} {σ : List (Option V)} {ρ : List SD} {L : List Addr}
theorem Slots.setK {l : Addr} {kvs : List (L2.Key × D)} (hx : KDict pr wd K O H l kvs) (hn : l ∉ L) : ∀ {σ : List (Option V)} {ρ : List SD} {L : List Addr} (i : Nat), i < ρ.length → Slots pr wd K O H σ ρ L →
    ∃ L1 L2 L3, Slots pr wd K O H (σ.set i (some (.ref l))) (ρ.set i (.dk kvs)) (L1 ++ l :: L2) ∧ L = L1 ++ L3 ∧ L2.Sublist L3
  | _, _, _, _, h, .nil => by simp at h
  | _, _, L, 0, _, .un s => ⟨[], L, L, .dk hx s, rfl, List.Sublist.refl _⟩
  | _, _, L, 0, _, .val _ s => ⟨[], L, L, .dk hx s, rfl, List.Sublist.refl _⟩
  | _, _, _ :: L, 0, _, .own _ _ s => ⟨[], L, _, .dk hx s, rfl, List.sublist_cons_self _ _⟩
  | _, _, _ :: L, 0, _, .dic _ s => ⟨[], L, _, .dk hx s, rfl, List.sublist_cons_self _ _⟩
  | _, _, _ :: L, 0, _, .dk _ s => ⟨[], L, _, .dk hx s, rfl, List.sublist_cons_self _ _⟩
  | _, _, _ :: L, 0, _, .tw _ s => ⟨[], L, _, .dk hx s, rfl, List.sublist_cons_self _ _⟩
  | _, _, _, i + 1, h, .un s => by
    obtain ⟨L1, L2, L3, h1, h2⟩ := Slots.setK hx hn i (by simpa using h) s
    exact ⟨L1, L2, L3, .un h1, h2⟩
  | _, _, _, i + 1, h, .val q s => by
    obtain ⟨L1, L2, L3, h1, h2⟩ := Slots.setK hx hn i (by simpa using h) s
    exact ⟨L1, L2, L3, .val q h1, h2⟩
  | _, _, _, i + 1, h, .own q r s => by
    obtain ⟨L1, L2, L3, h1, h2, h3⟩ := Slots.setK hx hn i (by simpa using h) s
    exact ⟨_ :: L1, L2, L3, .own q r h1, by rw [h2]; rfl, h3⟩
  | _, _, _, i + 1, h, .dic q s => by
    obtain ⟨L1, L2, L3, h1, h2, h3⟩ := Slots.setK hx hn i (by simpa using h) s
    exact ⟨_ :: L1, L2, L3, .dic q h1, by rw [h2]; rfl, h3⟩
  | _, _, _, i + 1, h, .dk q s => by
    obtain ⟨L1, L2, L3, h1, h2, h3⟩ := Slots.setK hx hn i (by simpa using h) s
    exact ⟨_ :: L1, L2, L3, .dk q h1, by rw [h2]; rfl, h3⟩
  | _, _, _, i + 1, h, .tw q s => by
    obtain ⟨L1, L2, L3, h1, h2, h3⟩ := Slots.setK hx hn i (by simpa using h) s
    exact ⟨_ :: L1, L2, L3, .tw q h1, by rw [h2]; rfl, h3⟩
  | _, _, _, 0, _, .ot _ q s => ⟨[], _, _, .dk hx s, rfl, by rw [q]; exact List.sublist_append_right _ _⟩
  | _, _, _, i + 1, h, .ot p q s => by
    obtain ⟨L1, L2, L3, h1, h2, h3⟩ := Slots.setK hx hn i (by simpa using h) s
    exact ⟨_, L2, L3, .ot p (List.append_assoc _ _ _) h1, by rw [q, h2, List.append_assoc], h3⟩
end
/-! one's own -/
theorem ws_freezeK (i : Nat) {kvs : List (L2.Key × D)} (h : ρ[i]? = some (.dk kvs)) (k : WS c ts (ρ.set i (.val (.dct kvs))) n Ψ) : WS c ts ρ n Ψ := fun P L σ H Dn E A => by
  obtain ⟨L', E', _⟩ := E.freezeK h
  exact k P L' σ H Dn E' A
theorem wt_lookK (i : Nat) {Φ : Nat → Bool → Prop} {kvs : List (L2.Key × D)} (h : ρ[i]? = some (.dk kvs)) (k : WT c t (ρ.set i (.val (.dct kvs))) n Φ) : WT c t ρ n Φ := fun P L σ H Q E q => by
  obtain ⟨L', E', sub⟩ := E.freezeK h
  exact k P L' σ H Q E' fun b n1 H1 s1 j1 k1 => q b n1 H1 s1 j1 k1
theorem we_lookK (i : Nat) {kvs : List (L2.Key × D)} (h : ρ[i]? = some (.dk kvs)) (k : WE c te (ρ.set i (.val (.dct kvs))) n fun n1 d => scalar d = true ∧ Φ n1 d) : WE c te ρ n Φ := fun P L σ H Q E q => by
  obtain ⟨L', E', sub⟩ := E.freezeK h
  exact k P L' σ H Q E' fun v d n1 H1 s1 j1 r1 ⟨hs, k1⟩ => q v d n1 H1 s1 j1 (r1.scal hs) k1
/-- d[k], d one's own -/
theorem we_kget {i : Nat} {kvs : List (L2.Key × D)} (h0 : ρ[i]? = some (.dk kvs)) (h : WE c ty ρ n fun n2 y => ∃ k, keyK y = some k ∧ ∃ d, lookK kvs k = some d ∧ Φ n2 d) : WE c (tDGet (tVar i) ty) ρ n Φ := fun P L σ H Q E q => by
  obtain ⟨l, g1, _, _, _⟩ := E.dk_at h0
  refine ⟨.ref l, g1, ?_⟩
  refine h P L σ H _ E fun y dy n2 H2 s2 j2 r2 ⟨k, hk, d, hl, kk⟩ => ?_
  have E2 := E.step s2 j2
  obtain ⟨l', g1', _, ⟨xs, g2, g3⟩, _⟩ := E2.dk_at h0
  rw [g1] at g1'
  cases g1'
  obtain ⟨v, hv, rv⟩ := g3.look.1 d hl
  exact ⟨_, v, rfl, .inl ⟨_, k, .inl g2, keyK_V r2 hk, hv.symm⟩, q v d n2 H2 s2 j2 rv kk⟩
/-- d[k] = v, d one's own -/
theorem ws_kput {i : Nat} {kvs : List (L2.Key × D)} {tv : TE} (h0 : ρ[i]? = some (.dk kvs)) (hz : kvs.length < 16777216) (h : WE c tv ρ n fun n1 vd => WE c ty ρ n1 fun n2 y => ∃ k, keyK y = some k ∧ Ψ.nx n2 (ρ.set i (.dk (putKD kvs k vd)))) : WS c (sDPut (tVar i) ty tv) ρ n Ψ := fun P L σ H Dn E A => by
  refine h P L σ H _ E fun v vd n1 H1 s1 j1 r1 h1 => ?_
  have E1 := E.step s1 j1
  obtain ⟨l, g1, _, _, _⟩ := E1.dk_at h0
  refine ⟨.ref l, g1, ?_⟩
  refine h1 P L σ H1 _ E1 fun y dy n2 H2 s2 j2 r2 ⟨k, hk, kk⟩ => ?_
  have E2 := E1.step s2 j2
  obtain ⟨l', g1', gL, ⟨xs, g2, g3⟩, up⟩ := E2.dk_at h0
  rw [g1] at g1'
  cases g1'
  refine ⟨l, upd H2 l (.dK (putK xs k v)), rfl, .inl ⟨xs, k, g2, keyK_V r2 hk, by rw [g3.length, sizeLine_eq]; exact hz, rfl⟩, ?_⟩
  refine A.nx L n2 _ _ _ (up (.dK (putK xs k v)) (putKD kvs k vd) ⟨_, upd_same, ?_⟩) kk
  rw [hid_upd_in gL]
  exact g3.put (r1.mono (E1.sameLO s2))
theorem ws_knew {i : Nat} (hi : i < ρ.length) (k : Ψ.nx n (ρ.set i (.dk []))) : WS c (tAsg (tDNewK) (gName i)) ρ n Ψ := fun P L σ H Dn E A => by
  intro p hp
  have w := E.new hp
  have nin : p ∉ L ++ c.O := E.noO p hp
  have T := E.newT (o := .dK []) hp
  have E1 := E.step T.1 T.2.1
  have e0 : ∀ O, hid (p :: O) (upd H p (.dK [])) = hid O H := fun O => hid_new_in hp
  obtain ⟨Ls, sl0, sb⟩ := E.slots
  have sl : Slots c.pr c.wd c.K (p :: (L ++ c.O)) (upd H p (.dK [])) σ ρ Ls := sl0.move (fun l hl => upd_ne fun e => w.2.2 (e ▸ sb.subset hl)) (by rw [e0]; exact Same.refl _)
  have nd : KDict c.pr c.wd c.K (p :: (L ++ c.O)) (upd H p (.dK [])) p [] := ⟨[], upd_same, .nil⟩
  obtain ⟨L1, L2, L3, sl2, eL, sub⟩ := Slots.setK nd (fun q => w.2.2 (sb.subset q)) i hi sl
  have mv : ∃ Lp : List Addr, (L1 ++ p :: L2).Sublist Lp ∧ Lp.Perm (p :: L) := by
    rw [eL] at sb
    have h5 : (L1 ++ L2).Sublist L := (List.Sublist.append_left sub L1).trans sb
    exact ins_sub h5
  obtain ⟨Lp, sLp, pLp⟩ := mv
  have mem : ∀ a, a ∈ Lp ++ c.O ↔ a ∈ p :: (L ++ c.O) := fun a => by
    rw [show p :: (L ++ c.O) = (p :: L) ++ c.O from rfl, List.mem_append, List.mem_append, pLp.mem_iff]
  refine A.nx Lp n _ _ _ ?_ k
  exact { nd := pLp.nodup_iff.mpr (List.nodup_cons.mpr ⟨w.2.2, E.nd⟩),
          fresh := fun l hl => by
            rcases List.mem_cons.mp (pLp.mem_iff.mp hl) with q | q
            · subst q; exact ⟨w.1, w.2.1⟩
            · exact E.fresh l q,
          slots := ⟨_, sl2.move (fun _ _ => rfl) (same_hid_sub fun a ha => (mem a).mp ha), sLp⟩,
          lst := fun l hl => by
            rcases List.mem_cons.mp (pLp.mem_iff.mp hl) with q | q
            · subst q; exact ⟨_, upd_same⟩
            · exact E1.lst l q,
          bag := T.2.1,
          base := E1.base,
          pers := (E.pers.trans (by rw [e0]; exact Same.refl _)).trans (same_hid_sub fun a ha => (mem a).mp ha),
          bO := E.bO, al := E1.al }
/-- dict(d) -/
def rDictD (K : PySem.W.Frag) : List V → Hp → VK → Prop := fun vs H Q => ∃ (a : Addr) (xs : List (L2.Key × V)), vs = [.ref a] ∧ Rd H a (.dK xs) ∧ ∀ p, H p = none → Q (.ref p) (upd H p (.dK xs))
theorem rc_dict {K : PySem.W.Frag} {Φ : D → Prop} {kvs : List (L2.Key × D)} (k : Φ (.dct kvs)) : RCD K (rDictD K) [.dct kvs] Φ := fun O H xs Q rs no q => by
  obtain ⟨v, rfl, r⟩ := rs.one
  cases r with
  | dct hs rk => exact ⟨_, _, rfl, same_rd same_hid hs, fun p hp => q _ _ _ (same_upd_new hp) (.dct (.inl (hid_at (no p hp))) (rk.mono (rp_upd (K := K) hp))) k⟩
theorem x_dict {X : Cx} (K : PySem.W.Frag) : CallR X (.type "dict") (rDictD K) := by
  intro pins s σ H vs us Q I r h
  obtain ⟨a, xs, rfl, hr, q⟩ := h
  rw [Vals.ref1 r]
  exact d_copyOf I hr fun p s' hp I' => ⟨.ref p, _, I', rfl, q p hp⟩
end
end L3
/-! L3p: texts walked and searched, attributes within comprehensions, classes as callers see them. -/
namespace L3
open PySem L2
section
variable {X : Cx} (K : PySem.W.Frag)
theorem x_fld {e : Expr} {f : Str} {pos : Pos} {ta : TE} (h : PE X (.Attribute e f pos) (tFld X.K ta f)) (hK : X.K = K := by rfl) : PE X (.Attribute e f pos) (tFld K ta f) := hK ▸ h
theorem x_sfld {o value : Expr} {f : Str} {pos pos' : Pos} {ta tv : TE} (h : PS X (.Assign [.Attribute o f pos'] value pos) (sFld X.K ta tv f)) (hK : X.K = K := by rfl) : PS X (.Assign [.Attribute o f pos'] value pos) (sFld K ta tv f) := hK ▸ h
end
/-- a class as its callers see it -/
structure Mn (P : Program) (w : World) (K : PySem.W.Frag) (mg : Str → Option Value) (base : Heap) (x : Str) (k : Nat) (ps : List Str) (dv : List V) (dw : List Value) (S : SpecI) where
  C : Addr
  fI : Addr
  fd : FuncData
  M : Mk K C fI
  cl : Cls K C
  G : FnOk P w K mg base CX0 k fI fd ps (spI K C S)
  m : mg x = some (.ref C)
  b : Binds K fd ps dw
  v : Vals dv dw
section
variable {c : Ctx} {ρ : List SD} {n : Nat} {te : TE}
def signsD (z : Str) : List D := z.cps.toList.map fun u => D.str ⟨#[u]⟩
theorem it_s {z : Str} {P : Hp} : ItOk c (Its z) (signsD z) P where
  go := fun L n H σ ρ E i d hd => by
    unfold signsD at hd
    rw [List.getElem?_map] at hd
    have hi : i < z.cps.size := by
      refine Nat.lt_of_not_le fun q => ?_
      rw [List.getElem?_eq_none (by simpa using q)] at hd
      cases hd
    refine ⟨hi, fun x H' ⟨e, u, hu, hy⟩ => ?_⟩
    subst e; subst hy
    have hu' : z.cps.toList[i]? = some u := by rw [Array.getElem?_toList]; exact hu
    rw [hu'] at hd
    cases hd
    exact ⟨Same.refl _, .str _⟩
  stop := fun L n H σ ρ E i hi => by
    unfold signsD at hi
    show z.cps.size ≤ i
    simpa using hi
theorem wi_str {Φ : Nat → List D → Prop} (h : WE c te ρ n fun n1 d => ∃ z, d = .str z ∧ Φ n1 (signsD z)) : WI c (iStr te) ρ n Φ := fun P L σ H R E q => by
  refine h P L σ H _ E fun x d n1 H1 s1 j1 r1 ⟨z, e, k⟩ => ?_
  subst e
  cases r1
  exact ⟨z, rfl, q _ _ n1 H1 s1 j1 it_s k⟩
end
section
variable {K : PySem.W.Frag} {Φ : D → Prop}
theorem r2_sign {u : Nat} {z : Str} (k : Φ (.bl (decide (u ∈ z.cps.toList)))) : R2D K L2.rInS (.str ⟨#[u]⟩) (.str z) Φ := fun O H x y Q rx ry _ q => by
  cases rx; cases ry
  exact ⟨u, z, rfl, rfl, q _ _ H (Same.refl _) (.bl _) k⟩
theorem r2_notSign {u : Nat} {z : Str} (k : Φ (.bl (!decide (u ∈ z.cps.toList)))) : R2D K L2.rNotInS (.str ⟨#[u]⟩) (.str z) Φ := fun O H x y Q rx ry _ q => by
  cases rx; cases ry
  exact ⟨u, z, rfl, rfl, q _ _ H (Same.refl _) (.bl _) k⟩
end
end L3
/-! L3q: constants of the module, __init__ with defaults. -/
namespace L3
open PySem L2
section
variable {c : Ctx} {ρ : List SD} {n : Nat} {Φ : Nat → D → Prop}
theorem we_const {v : V} {d : D} (h : ∀ H, Rp c.K H v d) (k : Φ n d) : WE c (tC v) ρ n Φ := fun P L σ H Q E q => q v d n H (Same.refl _) E.bag (h _) k
end
section
variable {P : Program} {w : World} {K : PySem.W.Frag} {mg : Str → Option Value} {base : Heap} {C : Addr}
theorem fn_ID {x qual : Str} {st : Stmt} {fa : Addr} {fd : FuncData} {N ps : List Str} {k : Nat} {S : SpecI} {dvs : List V} (F : FunD K x qual (defArgs st) (defBody st) (defScope st) dvs [] fa fd) (sc : FnScope N ps (defScope st))
    (len : ∀ bag n ds Φ, S bag n ds Φ → ds.length + 1 = ps.length)
    (body : ∀ (cdv : Value) (A : Around) (outer : List PySem.Env) (s : Shared) (H : Hp) (E : XK) (O : List Addr) (bag : Option (Addr × Addr)) (n : Nat) (ds : List D) (Φ : Nat → List (Str × D) → Prop) (p dx : Addr), Room k (A.deeper (PyProof.Rows.envOfC qual (defScope st) s.heap.objs.size fa cdv)) → S bag n ds Φ →
      ∃ t, PSs (cxOf CX0 P w K mg base N qual (defScope st) fa cdv A outer s H E).nox (defBody st) t ∧ WN P w K O bag p C dx t (rho N (.adr p :: ds)) n [] Φ) :
    FnOk P w K mg base CX0 (k + 1) fa fd ps (spI K C S) := by
  refine F.ok sc (fun vs H Q E h => ?_) (fun cdv A outer s H vs Q E hr h => ?_)
  · obtain ⟨O, bag, n, ds, Φ, p, dx, ws, rfl, _, _, _, _, r, hS, _⟩ := h
    rw [List.length_cons, r.length]; exact len bag n ds Φ hS
  · obtain ⟨O, bag, n, ds, Φ, p, dx, ws, rfl, hp, pO, hb, hO, r, hS, q⟩ := h
    obtain ⟨t, ht, W⟩ := body cdv A outer s H E O bag n ds Φ p dx hr hS
    refine ⟨t, ht.nox, W H _ [] _ hp pO .nil ?_ fun σ' fs' ks' n' H' s' b' hp' hf' kk' => q fs' ks' n' H' s' b' hp' hf' kk'⟩
    have r' : RpAll K (hid (p :: O) H) (.ref p :: ws) (.adr p :: ds) := .cons (.adr p) r
    have e : L2.start N (.ref p :: ws) = (.ref p :: ws).map some ++ List.replicate (N.length - (D.adr p :: ds).length) none := by unfold L2.start; rw [r'.length]
    exact { nd := List.nodup_nil, fresh := (fun l hl => nomatch hl), slots := ⟨[], by rw [e]; exact slots_start r', List.Sublist.refl _⟩, lst := (fun l hl => nomatch hl), bag := fun b q e => (hb b q e).1, base := Same.refl _,
            pers := (fun _ _ e => nomatch e), bO := fun b q e => ⟨List.mem_cons_of_mem _ (hb b q e).2.1, List.mem_cons_of_mem _ (hb b q e).2.2.1, (hb b q e).2.2.2⟩,
            al := fun o ho => by
              rcases List.mem_cons.mp ho with z | z
              · rw [z, hp]; exact fun z => nomatch z
              · exact hO o z }
end
end L3
/-! L3r: enumerate over a tuple. -/
namespace PySem
open PySem.W PyProof.Rows
theorem l3_enum_new1 {v : Value} {o : Obj} {H : Heap → Prop} (B : Begins v o H) :
    Meets (Builtin.«enumerate.__new__» ⟨[.type "enumerate", v], []⟩) (fun _ R s => H s.heap ∧
      R (.ok (.ret (.ref (s.heap.push o).objs.size))) { s with heap := (s.heap.push o).push { cls := .type "enumerate", data := .fields #[.none, .bool false, .ref s.heap.objs.size, rawInt 0, .none, .none] } }) :=
  .of_wp fun prog w A R s h => by
    obtain ⟨hp, g, d, tk, os⟩ := s; obtain ⟨h1, h⟩ := h
    have hsub := sub_enumerate
    have q1 : ∀ {A' : Around} {E : Value → Shared → Prop} {Q : Value → Shared → Prop}, Q (.ref hp.objs.size) ⟨hp.push o, g, d, tk, os⟩ → wpAny (model prog w) A' (pyIter v) Q E ⟨hp, g, d, tk, os⟩ :=
      fun q => B.iter prog w _ _ ⟨hp, g, d, tk, os⟩ _ h1 q
    wp_walk using q1
    refine wpAny_stack_any fun st => wpAny_pure ?_
    split
    · rename_i c _ _ _ _ _
      cases (c == Value.type "enumerate")
      · wp_walk using q1
        exact ⟨_, rfl, h⟩
      · wp_walk using q1
        exact ⟨_, rfl, h⟩
    · wp_walk using q1
      exact ⟨_, rfl, h⟩
theorem l3_enum_call1 {prog : Program} {w : World} {A : Around} {E : Value → Shared → Prop} {s : Shared} {v : Value} {o : Obj} {H : Heap → Prop} {Q : Value → Shared → Prop} (B : Begins v o H) (h1 : H s.heap)
    (h : ∀ h', IsEnum h' (s.heap.objs.size + 1) s.heap.objs.size 0 .none → h'.get? s.heap.objs.size = some o → h'.objs.size = s.heap.objs.size + 2 →
      (∀ b o, s.heap.get? b = some o → h'.get? b = some o) → Q (.ref (s.heap.objs.size + 1)) { s with heap := h' }) :
    wpAny (model prog w) A (call (.type "enumerate") [v]) Q E s := by
  refine callType_new F.called_enumerate (by decide) (F.typeCall_enumerate_1 _) (F.newCall_enumerate_1 _) (fun obj => F.args_object_init_2 obj _) F.entry_enumerate_new
    (l3_enum_new1 B) ⟨h1, ?_⟩
  have hz : (s.heap.push o).objs.size = s.heap.objs.size + 1 := Heap.size_push ..
  show _ ∧ _
  rw [hz]
  have he : IsEnum ((s.heap.push o).push { cls := .type "enumerate", data := .fields #[.none, .bool false, .ref s.heap.objs.size, rawInt 0, .none, .none] }) (s.heap.objs.size + 1) s.heap.objs.size 0 .none := by
    have := Heap.get?_push_size (s.heap.push o) (o := { cls := .type "enumerate", data := .fields #[.none, .bool false, .ref s.heap.objs.size, rawInt 0, .none, .none] }) rfl
    rw [hz] at this; exact this
  refine ⟨⟨_, he, rfl⟩, h _ he (Heap.get?_push_of_some _ (Heap.get?_push_size _ B.free)) (by rw [Heap.size_push, hz]) fun b o x => Heap.get?_push_of_some _ (Heap.get?_push_of_some _ x)⟩
end PySem
/-! L3s: enumerate over a tuple. -/
namespace L2
open PySem PySem.Spec PyProof.Rows
def IteT (K : PySem.W.Frag) (a : Addr) (n0 : Nat) : It :=
  ⟨fun i H => ∃ (xs : List V) (x : V), SqT K H a xs ∧ xs.length = n0 ∧ xs[i]? = some x, fun i H v H' => ∃ T x, v = .ref T ∧ H T = none ∧ H' = upd H T (.tup [.int (i : Nat), x]) ∧ ∀ xs, SqT K H a xs → xs[i]? = some x, fun i H => ∃ xs : List V, SqT K H a xs ∧ xs.length = n0 ∧ n0 ≤ i⟩
theorem turn_enumT {P : Program} {w : World} {K : PySem.W.Frag} {elts : List Expr} {kk : Nat} {tpos : Pos} (a e it : Addr) (n0 : Nat) (hea : a ≠ it) :
    Turn P w K (.Tuple elts kk tpos) (IteT K a n0) [e, it] e (fun i h => (∃ old, IsEnum h e it ((i : Nat) : Int) old) ∧ h.IsTupleIter it a i ∧ e ≠ it ∧ a ≠ e ∧ i ≤ n0) where
  mem := by simp
  obj := fun i h st b hb => by
    obtain ⟨⟨old, he⟩, ⟨o, ho, hc, hd⟩, _⟩ := st
    have e' : b = e ∨ b = it := by simpa using hb
    rcases e' with z | z
    · rw [z]; exact ⟨_, he, fun v q => nomatch q⟩
    · rw [z]; exact ⟨o, ho, fun v q => by rw [hd] at q; cases q⟩
  keep := fun i h h' st k => let ⟨⟨old, he⟩, hi, hne⟩ := st; ⟨⟨old, k e (by simp) _ he⟩, hi.at fun o q => k it (by simp) o q, hne⟩
  item := by
    intro X hP hw hK hc i pins s σ H E I hf st hg
    subst hP hw hK
    obtain ⟨⟨old, he⟩, hit, hne, hae, hin⟩ := st
    obtain ⟨xs, x, hq, hxl, hx⟩ := hg
    obtain ⟨its, rv, p, hz⟩ := I.tuple hq
    obtain ⟨u, hu, ru⟩ := rv.get hx
    have hel : e < s.heap.objs.size := Heap.lt_size he
    have hil : it < s.heap.objs.size := by obtain ⟨_, q, _⟩ := hit; exact Heap.lt_size q
    have hlt : i < its.toArray.size := by
      have := (List.getElem?_eq_some_iff.mp hu).1
      simpa using this
    refine wpAny_pyNext_enum_itemC (Draws.tuple (show X.A.in1.handled = none from I.ok.hd hc) it a hea its.toArray) he ⟨hit, show s.heap.IsTuple a its.toArray from p⟩ hlt hne (by simp [hne, Ne.symm hae]) fun u' h' tk hP ho hit' hT hsz hk => ?_
    have eu : u' = u := by
      have h1 : its[i]? = some u' := by simpa using hP
      rw [hu] at h1
      exact (Option.some.inj h1).symm
    subst eu
    refine ⟨_, rfl, wpAny_letOwnedTupleGo_enum (s := { s with heap := h', toks := tk + 1 }) ho fun h'' he' sb => ?_⟩
    have hT2 : h''.get? s.heap.objs.size = some { cls := .type "tuple", data := .seq #[.int i tk, u'] } := (sb.2 _ (Nat.ne_of_gt hel)).trans hT
    have new : ObjOk X.prog X.w (upd H s.heap.objs.size (.tup [.int (i : Nat), x])) h'' s.heap.objs.size (.tup [.int (i : Nat), x]) :=
      ⟨by show 2 ≤ sizeLine; decide, [.int i tk, u'], .cons ⟨_, rfl⟩ (.cons ru .nil), ⟨_, hT2, rfl, _, rfl⟩⟩
    have I1 : Inv X pins σ (upd H s.heap.objs.size (.tup [.int (i : Nat), x])) { s with heap := h'', toks := tk + 1 } :=
      I.turnedNew (ch := [e, it]) (fun b ob hb q => (sb.2 b (fun z => hb (by simp [z]))).trans (hk b ob (fun z => hb (by simp [z])) (fun z => hb (by simp [z])) q)) hf (Nat.le_refl _) new
    refine ⟨.ref s.heap.objs.size, _, I1, rfl, ⟨_, x, rfl, I.hok.fresh (Nat.le_refl _), rfl, fun ys hy => by rw [I.tuple_inj hy hq]; exact hx⟩, ⟨⟨u', ?_⟩, hit'.1.at fun o q => (sb.2 it (Ne.symm hne)).trans q, hne, hae, by have := (List.getElem?_eq_some_iff.mp hx).1; omega⟩, fun b hb => ?_⟩
    · have e1 : ((i + 1 : Nat) : Int) = (i : Int) + 1 := by omega
      rw [e1]; exact he'
    · have hb' : b < s.heap.objs.size := by
        have e' : b = e ∨ b = it := by simpa using hb
        rcases e' with z | z
        · rw [z]; exact hel
        · rw [z]; exact hil
      rw [upd_ne (Nat.ne_of_lt hb')]
      exact (hf b hb).1
  done := by
    intro X hP hw hK hc i pins s σ H E I hf st hg
    subst hP hw hK
    obtain ⟨⟨old, he⟩, hit, hne, hae, hin⟩ := st
    obtain ⟨xs, hq, hxl, hx⟩ := hg
    obtain ⟨its, rv, p, hz⟩ := I.tuple hq
    obtain ⟨f0, f1, f2, f3, f4, f5⟩ := hf it (by simp)
    have hl := rv.length
    have ei : i = its.toArray.size := by simp; omega
    subst ei
    exact wpAny_pyNext_enum_endD (Draws.tuple (show X.A.in1.handled = none from I.ok.hd hc) it a hea its.toArray) he ⟨hit, show s.heap.IsTuple a its.toArray from p⟩ fun h' eb => ⟨rfl, I.turned (t' := s.toks) (fun b o hb q => eb b o hb q) f0 f1 f3 f4 f5⟩
  self := fun A i s Q E st h => let ⟨⟨_, he⟩, _⟩ := st; wpAny_pyIter_enum he h
def iEnumT (K : PySem.W.Frag) (ta : TA) : TI := fun σ H R => ta σ H fun vs H1 => ∃ a xs, vs = [.ref a] ∧ SqT K H1 a xs ∧ R (IteT K a xs.length) H1
theorem pi_enumT {X : Cx} {e : Expr} {ta : TA} {p pos tpos : Pos} {elts : List Expr} {kk : Nat} (hg : Gl X "enumerate") (hm : X.mg "enumerate" = none) (ha : PA X [e] ta) (hs : starEach [e] X.env = [(false, eval e X.env)] := by rfl) :
    PI X (.Tuple elts kk tpos) (.Call (.Name "enumerate" p) [e] [] pos) (iEnumT X.K ta) := by
  refine ⟨fun pins s σ H R I h => ?_⟩
  refine Call_ (ld_blt I hg hm boot_enumerate (PyProof.Rows.callWith_type1 (thn (ha.run pos pins s σ H _ I h) fun us s1 ⟨vs, H1, I1, r1, q1⟩ => ?_) hs rfl))
  obtain ⟨a, xs, ex, hq, q⟩ := q1
  subst ex
  cases r1 with
  | cons r rr =>
    cases rr
    cases r
    obtain ⟨its, rv, p', hz⟩ := I1.tuple hq
    have ipt : s1.heap.IsTuple a its.toArray := p'
    have hal : a < s1.heap.objs.size := by
      obtain ⟨o, ho, _⟩ := ipt
      exact Heap.lt_size ho
    refine l3_enum_call1 (begins_tuple a its.toArray) ipt fun h' he hit hsz hk => wpAny_pyIter_enum he ?_
    have I2 : Inv X pins σ H1 { s1 with heap := h' } := I1.kept (t' := s1.toks) hk
    refine ⟨s1.heap.objs.size + 1, [s1.heap.objs.size + 1, s1.heap.objs.size], _, _, H1, rfl, I2, turn_enumT a (s1.heap.objs.size + 1) s1.heap.objs.size xs.length (Nat.ne_of_lt hal), ⟨⟨.none, he⟩, ⟨_, hit, rfl, rfl⟩, Nat.succ_ne_self _, Nat.ne_of_lt (Nat.lt_succ_of_lt hal), Nat.zero_le _⟩, fun b hb => ?_, q⟩
    have e' : b = s1.heap.objs.size + 1 ∨ b = s1.heap.objs.size := by simpa using hb
    have hle : s1.heap.objs.size ≤ b := by
      rcases e' with z | z
      · rw [z]; exact Nat.le_add_right _ _
      · rw [z]; exact Nat.le_refl _
    exact I1.fpOk hle (I1.hok.fresh hle)
end L2
namespace L3
open PySem L2
theorem x_enumT {X : Cx} (K : PySem.W.Frag) {e : Expr} {ta : TA} {p pos tpos : Pos} {elts : List Expr} {kk : Nat} (hg : Gl X "enumerate") (hm : X.mg "enumerate" = none) (ha : PA X [e] ta) (hs : starEach [e] X.env = [(false, eval e X.env)] := by rfl) (hK : X.K = K := by rfl) :
    PI X (.Tuple elts kk tpos) (.Call (.Name "enumerate" p) [e] [] pos) (iEnumT K ta) := hK ▸ pi_enumT hg hm ha hs
section
variable {c : Ctx} {ρ : List SD} {n : Nat} {as : TA}
theorem it_eT {a : Addr} {xs : List V} {ds : List D} {P : Hp} (hs : SqT c.K P a xs) (hr : RpAll c.K P xs ds) : ItOk c (IteT c.K a xs.length) (enumD 0 ds) P where
  go := fun L n H σ ρ E i d hd => by
    obtain ⟨e, h1, h2⟩ := enumD_get hd
    obtain ⟨v, g1, g2⟩ := hr.get' h1
    subst h2
    refine ⟨⟨xs, v, same_t E.perR hs, rfl, g1⟩, fun x H' ⟨T, y, e1, e2, e3, hy⟩ => ?_⟩
    subst e1; subst e3
    have e4 := hy xs (same_t E.perR hs)
    rw [g1] at e4
    cases e4
    have sm := same_upd_new (o := .tup [.int (i : Nat), v]) e2
    refine ⟨sm, .tup (.inl (.inl (hid_at (E.noO T e2)))) (.cons ?_ (.cons ((g2.mono E.pers).mono (same_hid_of sm)) .nil))⟩
    have e5 : (0 : Int) + (i : Int) = (i : Int) := by omega
    rw [e5]
    exact .int _
  stop := fun L n H σ ρ E i hi => by
    rw [enumD_len] at hi
    exact ⟨xs, same_t E.perR hs, rfl, by rw [hr.length]; exact hi⟩
theorem wi_enumT {Φ : Nat → List D → Prop} (h : WA c as ρ n fun n1 ds => ∃ xs, ds = [.tup xs] ∧ Φ n1 (enumD 0 xs)) : WI c (iEnumT c.K as) ρ n Φ := fun P L σ H R E q => by
  refine h P L σ H _ E fun vs ds n1 H1 s1 j1 r1 ⟨xs, e, k⟩ => ?_
  subst e
  cases r1 with
  | cons r rr =>
    cases rr
    cases r with
    | tup hs ha => exact ⟨_, _, rfl, same_t same_hid hs, q _ _ n1 H1 s1 j1 (it_eT hs ha) k⟩
end
end L3
/-! L3t: a tuple whose head is a dict of one's own; more of own lists and dicts. -/
namespace L3
open PySem L2
theorem nd_rp {pr : Program} {wd : World} {K : PySem.W.Frag} {O O' : List Addr} {H : Hp} {l : Addr} {kvs : List (D × D)} (h : NDict pr wd K O H l kvs) (b : l ∉ O') (a : Same (hid O H) (hid O' H)) : Rp K (hid O' H) (.ref l) (.dcn pr wd kvs) := by
  obtain ⟨xs, h1, h2, h3⟩ := h
  exact .dcn (.inl (by rw [hid_out b]; exact h1)) h2 ((RpNs.of h3).mono a)
/-- the same, locked or not -/
def NDictR (pr : Program) (wd : World) (K : PySem.W.Frag) (O : List Addr) (H : Hp) (l : Addr) (kvs : List (D × D)) : Prop :=
  ∃ xs, Rd H l (.ext (DictBare pr wd xs l)) ∧ (l == sysModules) = false ∧ Paired (EntD K (hid O H)) kvs xs
theorem nd_ofR {X : Cx} {pins : List (Addr × Obj)} {σ : L2.St} {H : Hp} {s : Shared} (I : Inv X pins σ H s) {O : List Addr} {l : Addr} {kvs : List (D × D)} {xs : List (NestedKey × Addr × Value)} (h1 : Rd H l (.ext (DictBare X.prog X.w xs l))) (h3 : Paired (EntD X.K (hid O H)) kvs xs) : s.heap.DictOfH (nestedKind X.prog X.w) l xs := by
  obtain ⟨⟨o, es, ep, e1, e2, e3, e4, e5⟩, _⟩ := h1.ok I.hok
  refine ⟨o, es, ep, e1, e2, e3, e4, fun x hx => ?_, e5⟩
  have key : ∀ {kvs : List (D × D)} {xs : List (NestedKey × Addr × Value)}, Paired (EntD X.K (hid O H)) kvs xs → x ∈ xs → (nestedKind X.prog X.w).is s.heap x.1 x.2.1 := by
    intro kvs xs h
    induction h with
    | nil => intro q; cases q
    | cons h t ih =>
      intro q
      rcases List.mem_cons.mp q with q | q
      · subst q
        obtain ⟨g1, g2, g3, _⟩ := h
        obtain ⟨a, ea, eb, is⟩ := key_is I g3 rfl g1
        cases eb
        rw [g2]; exact is
      · exact ih q
  exact key h3 hx
theorem nd_of_rp {pr : Program} {wd : World} {K : PySem.W.Frag} {O : List Addr} {H : Hp} {x : V} {kvs : List (D × D)} (h : Rp K (hid O H) x (.dcn pr wd kvs)) : ∃ l, x = .ref l ∧ NDictR pr wd K O H l kvs := by
  cases h with
  | dcn h1 h2 h3 => exact ⟨_, rfl, _, same_rd same_hid h1, h2, h3.pair⟩
def rIxR (pr : Program) (wd : World) (K : PySem.W.Frag) : R2 := fun x y H Q => ∃ (O : List Addr) (l : Addr) (kvs : List (D × D)) (kd v : D), x = .ref l ∧ NDictR pr wd K O H l kvs ∧ Rp K (hid O H) y kd ∧ keyD kd = true ∧ lookD kvs kd = some v ∧ ∀ u, Rp K (hid O H) u v → Q u H
theorem x_ixR {X : Cx} (pr : Program) (wd : World) (K : PySem.W.Frag) (hu : X.A.units + 64 < cLine) (hp : X.prog = pr := by rfl) (hw : X.w = wd := by rfl) (hK : X.K = K := by rfl) : IxR X (rIxR pr wd K) := by
  subst hp; subst hw; subst hK
  intro value slice pins s σ H x y v u Q I rx ry h hs
  obtain ⟨O, l, kvs, kd, vd, rfl, ⟨xs, n1, n2, n3⟩, rk, hk, hl, q⟩ := h
  cases rx
  obtain ⟨a, ea, eb, is⟩ := key_is I rk ry hk
  subst eb
  have dd := nd_ofR I n1 n3
  rcases ent_look (kd := kd) n3 with ⟨e1, _⟩ | ⟨v', a', u', w, e1, e2, e3, e4⟩
  · rw [e1] at hl; cases hl
  · rw [e1] at hl
    cases hl
    refine PyProof.Rows.tail_any dd.typeIs PySem.F.slot_dict_getitem.lookup ?_ hs
    exact wpAny_getItem_heap (by show X.A.in1.units + 8 < cLine; have : X.A.in1.units = X.A.units + 1 := rfl; omega) is dd e2 ⟨w, H, I.tok _, e3, q w e4⟩
section
variable {c : Ctx} {ρ : List SD} {n : Nat} {ta tb te td ty tx : TE} {t u : TT} {as : TA} {Φ : Nat → D → Prop} {Ψ : Out} {ts us : TS}
/-! ### results that hang on no dict -/
theorem rd_drop {O : List Addr} {H : Hp} {l a : Addr} {x : HO} (hn : ¬ Rd H l x) (h : Rd (hid O H) a x) : Rd (hid (l :: O) H) a x := by
  have ne : a ≠ l := fun e => hn (by rw [← e]; exact same_rd same_hid h)
  have e : hid (l :: O) H a = hid O H a := by
    unfold hid
    by_cases q : a ∈ O
    · rw [if_pos q, if_pos (List.mem_cons_of_mem _ q)]
    · rw [if_neg q, if_neg (by simp [ne, q])]
  unfold Rd
  rw [e]; exact h
def NoSeq (H : Hp) (l : Addr) : Prop := ∀ xs, ¬ Rd H l (.lst xs) ∧ ¬ Rd H l (.tup xs)
theorem noSeq_ext {H : Hp} {l : Addr} {φ : Heap → Prop} (h : H l = some (.ext φ)) : NoSeq H l := fun xs => by
  constructor <;> rintro (q | ⟨o, q⟩) <;> (rw [h] at q; cases q)
theorem noSeq_dK {H : Hp} {l : Addr} {kvs : List (L2.Key × V)} (h : H l = some (.dK kvs)) : NoSeq H l := fun xs => by
  constructor <;> rintro (q | ⟨o, q⟩) <;> (rw [h] at q; cases q)
mutual
theorem rp_drop {K : PySem.W.Frag} {O : List Addr} {H : Hp} {l : Addr} (hl : NoSeq H l) : ∀ (d : D) (v : V), Rp K (hid O H) v d → plain d = true → Rp K (hid (l :: O) H) v d
  | .non, _, h, _ => by cases h; exact .non
  | .bl b, _, h, _ => by cases h; exact .bl b
  | .int i, _, h, _ => by cases h; exact .int i
  | .str x, _, h, _ => by cases h; exact .str x
  | .lst xs, _, h, p => by
    cases h with
    | lst h r => exact .lst (rd_drop (hl _).1 h) (rp_drops hl xs _ r p)
  | .tup xs, _, h, p => by
    cases h with
    | tup h r =>
      refine .tup ?_ (rp_drops hl xs _ r p)
      rcases h with h | h
      · exact .inl (rd_drop (hl _).2 h)
      · exact .inr h
  | .obj _ _, _, _, p => by cases p
  | .adr _, _, _, p => by cases p
  | .ty _, _, _, p => by cases p
  | .er _ _, _, _, p => by cases p
  | .dct _, _, _, p => by cases p
  | .dcn _ _ _, _, _, p => by cases p
theorem rp_drops {K : PySem.W.Frag} {O : List Addr} {H : Hp} {l : Addr} (hl : NoSeq H l) : ∀ (ds : List D) (vs : List V), RpAll K (hid O H) vs ds → plainAll ds = true → RpAll K (hid (l :: O) H) vs ds
  | [], _, h, _ => by cases h; exact .nil
  | x :: xs, _, h, p => by
    cases h with
    | cons h r =>
      have p' : (plain x && plainAll xs) = true := p
      rw [Bool.and_eq_true] at p'
      exact .cons (rp_drop hl x _ h p'.1) (rp_drops hl xs _ r p'.2)
end
theorem rp_back {K : PySem.W.Frag} {L L' O : List Addr} {H : Hp} {l : Addr} {v : V} {d : D} (hl : NoSeq H l) (hL : ∀ a ∈ L, a = l ∨ a ∈ L') (r : Rp K (hid (L' ++ O) H) v d) (p : plain d = true) : Rp K (hid (L ++ O) H) v d :=
  (rp_drop hl d v r p).mono (same_hid_sub fun a ha => by
    rcases List.mem_append.mp ha with q | q
    · rcases hL a q with e | e
      · rw [e]; exact List.mem_cons_self
      · exact List.mem_cons_of_mem _ (List.mem_append_left _ e)
    · exact List.mem_cons_of_mem _ (List.mem_append_right _ q))
theorem Slots.freezeW {pr : Program} {wd : World} {K : PySem.W.Frag} {O : List Addr} {H : Hp} {l : Addr} {kvs : List (D × D)} {ds : List D} : ∀ {σ : List (Option V)} {ρ : List SD} {L : List Addr} {i : Nat}, Slots pr wd K O H σ ρ L → ρ[i]? = some (.tw l kvs ds) → ∃ L1 L2 t, L = L1 ++ l :: L2 ∧ TDict pr wd K O H t l kvs ds ∧
    ∀ O' , Same (hid O H) (hid O' H) → l ∉ O' → Slots pr wd K O' H σ (ρ.set i (.val (.tup (.dcn pr wd kvs :: ds)))) (L1 ++ L2)
  | _, _, _, _, .nil, e => by simp at e
  | _, _, _, 0, .un _, e => by simp at e
  | _, _, _, i + 1, .un s, e => by
    obtain ⟨L1, L2, t, h1, h2, h4⟩ := Slots.freezeW (i := i) s (by simpa using e)
    exact ⟨L1, L2, t, h1, h2, fun O' a b => .un (h4 O' a b)⟩
  | _, _, _, 0, .val _ _, e => by simp at e
  | _, _, _, i + 1, .val r s, e => by
    obtain ⟨L1, L2, t, h1, h2, h4⟩ := Slots.freezeW (i := i) s (by simpa using e)
    exact ⟨L1, L2, t, h1, h2, fun O' a b => .val (r.mono a) (h4 O' a b)⟩
  | _, _, _, 0, .own h r s, e => by simp at e
  | _, _, _, i + 1, .own h r s, e => by
    obtain ⟨L1, L2, t, h1, h2, h4⟩ := Slots.freezeW (i := i) s (by simpa using e)
    exact ⟨_ :: L1, L2, t, by rw [h1]; rfl, h2, fun O' a b => .own h (r.mono a) (h4 O' a b)⟩
  | _, _, _, 0, .dic _ _, e => by simp at e
  | _, _, _, 0, .dk _ s, e => by simp at e
  | _, _, _, 0, .tw ⟨vs, h, r, n⟩ s, e => by
    simp at e
    obtain ⟨rfl, rfl, rfl⟩ := e
    exact ⟨[], _, _, rfl, ⟨vs, h, r, n⟩, fun O' a b => .val (.tup (same_t a h) (.cons (nd_rp n b a) (r.mono a))) (s.move (fun _ _ => rfl) a)⟩
  | _, _, _, i + 1, .dic h s, e => by
    obtain ⟨L1, L2, t, h1, h2, h4⟩ := Slots.freezeW (i := i) s (by simpa using e)
    exact ⟨_ :: L1, L2, t, by rw [h1]; rfl, h2, fun O' a b => .dic (h.move rfl a) (h4 O' a b)⟩
  | _, _, _, i + 1, .dk h s, e => by
    obtain ⟨L1, L2, t, h1, h2, h4⟩ := Slots.freezeW (i := i) s (by simpa using e)
    exact ⟨_ :: L1, L2, t, by rw [h1]; rfl, h2, fun O' a b => .dk (h.move rfl a) (h4 O' a b)⟩
  | _, _, _, i + 1, .tw h s, e => by
    obtain ⟨L1, L2, t, h1, h2, h4⟩ := Slots.freezeW (i := i) s (by simpa using e)
    exact ⟨_ :: L1, L2, t, by rw [h1]; rfl, h2, fun O' a b => .tw (h.move rfl a) (h4 O' a b)⟩
  | _, _, _, 0, .ot _ _ _, e => by simp at e
  | _, _, _, i + 1, .ot h q s, e => by
    obtain ⟨L1, L2, t, h1, h2, h4⟩ := Slots.freezeW (i := i) s (by simpa using e)
    exact ⟨_, L2, t, by rw [q, h1, List.append_assoc], h2, fun O' a b => .ot (OT.mv _ h (fun _ _ => rfl) fun _ _ r => r.mono a) (List.append_assoc _ _ _) (h4 O' a b)⟩
theorem Env.freezeW {P : Hp} {L : List Addr} {n : Nat} {H : Hp} {σ : List (Option V)} {i : Nat} {l : Addr} {kvs : List (D × D)} {ds : List D} (E : Env c P L n H σ ρ) (h : ρ[i]? = some (.tw l kvs ds)) : ∃ L', Env c P L' n H σ (ρ.set i (.val (.tup (.dcn c.pr c.wd kvs :: ds)))) ∧ L'.Sublist L ∧ (∀ a ∈ L, a = l ∨ a ∈ L') ∧ l ∈ L ∧ ∃ xs, H l = some (.ext (DictBare c.pr c.wd xs l)) := by
  obtain ⟨Ls, sl, sb⟩ := E.slots
  obtain ⟨L1, L2, t, h1, ⟨vs, q1, q2, xs, h2, q3⟩, h4⟩ := sl.freezeW h
  have lL : l ∈ L := sb.subset (by rw [h1]; simp)
  have sub : (L.erase l).Sublist L := List.erase_sublist
  have nl : l ∉ L.erase l := E.nd.not_mem_erase
  have sb2 : (L1 ++ L2).Sublist (L.erase l) := by
    have nd := sb.nodup E.nd
    rw [h1] at nd
    have n1 : l ∉ L1 := fun q => by
      have := (List.nodup_append.mp nd).2.2 l q l List.mem_cons_self
      exact this rfl
    have q : (Ls.erase l).Sublist (L.erase l) := sb.erase l
    rw [h1, List.erase_append_right _ n1, List.erase_cons_head] at q
    exact q
  have nO : l ∉ (L.erase l) ++ c.O := fun q => by
    rcases List.mem_append.mp q with q | q
    · exact nl q
    · exact (E.fresh l lL).2 q
  have se : Same (hid (L ++ c.O) H) (hid ((L.erase l) ++ c.O) H) := same_hid_sub fun a ha => by
    rcases List.mem_append.mp ha with q | q
    · exact List.mem_append_left _ (sub.subset q)
    · exact List.mem_append_right _ q
  exact ⟨L.erase l, { nd := sub.nodup E.nd, fresh := fun l hl => E.fresh l (sub.subset hl), slots := ⟨_, h4 _ se nO, sb2⟩, lst := fun l hl => E.lst l (sub.subset hl), base := E.base, pers := E.pers.trans se, bO := E.bO, al := E.al, bag := E.bag }, sub, fun a ha => by by_cases q : a = l; exact .inl q; exact .inr ((List.mem_erase_of_ne q).mpr ha), lL, _, h2⟩
theorem Env.freezeK2 {P : Hp} {L : List Addr} {n : Nat} {H : Hp} {σ : List (Option V)} {i : Nat} {kvs : List (L2.Key × D)} (E : Env c P L n H σ ρ) (h : ρ[i]? = some (.dk kvs)) : ∃ L', Env c P L' n H σ (ρ.set i (.val (.dct kvs))) ∧ L'.Sublist L ∧ ∃ l xs, (∀ a ∈ L, a = l ∨ a ∈ L') ∧ l ∈ L ∧ H l = some (.dK xs) := by
  obtain ⟨Ls, sl, sb⟩ := E.slots
  obtain ⟨L1, l, L2, xs, h1, h2, h3, h4⟩ := sl.freezeK h
  have lL : l ∈ L := sb.subset (by rw [h1]; simp)
  have sub : (L.erase l).Sublist L := List.erase_sublist
  have nl : l ∉ L.erase l := E.nd.not_mem_erase
  have sb2 : (L1 ++ L2).Sublist (L.erase l) := by
    have nd := sb.nodup E.nd
    rw [h1] at nd
    have n1 : l ∉ L1 := fun q => by
      have := (List.nodup_append.mp nd).2.2 l q l List.mem_cons_self
      exact this rfl
    have q : (Ls.erase l).Sublist (L.erase l) := sb.erase l
    rw [h1, List.erase_append_right _ n1, List.erase_cons_head] at q
    exact q
  have nO : l ∉ (L.erase l) ++ c.O := fun q => by
    rcases List.mem_append.mp q with q | q
    · exact nl q
    · exact (E.fresh l lL).2 q
  have se : Same (hid (L ++ c.O) H) (hid ((L.erase l) ++ c.O) H) := same_hid_sub fun a ha => by
    rcases List.mem_append.mp ha with q | q
    · exact List.mem_append_left _ (sub.subset q)
    · exact List.mem_append_right _ q
  exact ⟨L.erase l, { nd := sub.nodup E.nd, fresh := fun l hl => E.fresh l (sub.subset hl), slots := ⟨_, h4 _ se nO, sb2⟩, lst := fun l hl => E.lst l (sub.subset hl), base := E.base, pers := E.pers.trans se, bO := E.bO, al := E.al, bag := E.bag }, sub, l, xs, fun a ha => by by_cases q : a = l; exact .inl q; exact .inr ((List.mem_erase_of_ne q).mpr ha), lL, h2⟩
theorem Slots.tw_at {pr : Program} {wd : World} {K : PySem.W.Frag} {O : List Addr} {H : Hp} {l : Addr} {kvs lvs : List (D × D)} {ds : List D} : ∀ {σ : List (Option V)} {ρ : List SD} {L : List Addr} {i : Nat}, Slots pr wd K O H σ ρ L → L.Nodup → ρ[i]? = some (.tw l kvs ds) → ∃ t, σ[i]? = some (some (.ref t)) ∧ l ∈ L ∧ TDict pr wd K O H t l kvs ds ∧
    ∀ (o : HO), NDict pr wd K O (upd H l o) l lvs → hid O (upd H l o) = hid O H → Slots pr wd K O (upd H l o) σ (ρ.set i (.tw l lvs ds)) L
  | _, _, _, _, .nil, _, e => by simp at e
  | _, _, _, 0, .un _, _, e => by simp at e
  | _, _, _, i + 1, .un s, nd, e => by
    obtain ⟨t, h1, h2, h3, h5⟩ := Slots.tw_at (i := i) s nd (by simpa using e)
    exact ⟨t, by simpa using h1, h2, h3, fun ys a b => .un (h5 ys a b)⟩
  | _, _, _, 0, .val _ _, _, e => by simp at e
  | _, _, _, i + 1, .val r s, nd, e => by
    obtain ⟨t, h1, h2, h3, h5⟩ := Slots.tw_at (i := i) s nd (by simpa using e)
    exact ⟨t, by simpa using h1, h2, h3, fun ys a b => .val (by rw [b]; exact r) (h5 ys a b)⟩
  | _, _, _, 0, .own _ _ _, _, e => by simp at e
  | _, _, _, i + 1, .own h r s, nd, e => by
    obtain ⟨t, h1, h2, h3, h5⟩ := Slots.tw_at (i := i) s (List.nodup_cons.mp nd).2 (by simpa using e)
    exact ⟨t, by simpa using h1, List.mem_cons_of_mem _ h2, h3, fun ys a b => .own ((upd_ne fun e => (List.nodup_cons.mp nd).1 (by rw [e]; exact h2)).trans h) (by rw [b]; exact r) (h5 ys a b)⟩
  | _, _, _, 0, .dic h s, nd, e => by simp at e
  | _, _, _, 0, .dk h s, nd, e => by simp at e
  | _, _, _, 0, .tw ⟨vs, h, r, q⟩ s, nd, e => by
    simp at e
    obtain ⟨rfl, rfl, rfl⟩ := e
    exact ⟨_, rfl, List.mem_cons_self, ⟨vs, h, r, q⟩, fun ys a b => .tw ⟨vs, by rw [b]; exact h, by rw [b]; exact r, a⟩ (s.move (fun l hl => upd_ne fun e => (List.nodup_cons.mp nd).1 (by rw [← e]; exact hl)) (by rw [b]; exact Same.refl _))⟩
  | _, _, _, i + 1, .dic h s, nd, e => by
    obtain ⟨t, h1, h2, h3, h5⟩ := Slots.tw_at (i := i) s (List.nodup_cons.mp nd).2 (by simpa using e)
    exact ⟨t, by simpa using h1, List.mem_cons_of_mem _ h2, h3, fun ys a b => .dic (h.move (upd_ne fun e => (List.nodup_cons.mp nd).1 (by rw [e]; exact h2)) (by rw [b]; exact Same.refl _)) (h5 ys a b)⟩
  | _, _, _, i + 1, .dk h s, nd, e => by
    obtain ⟨t, h1, h2, h3, h5⟩ := Slots.tw_at (i := i) s (List.nodup_cons.mp nd).2 (by simpa using e)
    exact ⟨t, by simpa using h1, List.mem_cons_of_mem _ h2, h3, fun ys a b => .dk (h.move (upd_ne fun e => (List.nodup_cons.mp nd).1 (by rw [e]; exact h2)) (by rw [b]; exact Same.refl _)) (h5 ys a b)⟩
  | _, _, _, i + 1, .tw h s, nd, e => by
    obtain ⟨t, h1, h2, h3, h5⟩ := Slots.tw_at (i := i) s (List.nodup_cons.mp nd).2 (by simpa using e)
    exact ⟨t, by simpa using h1, List.mem_cons_of_mem _ h2, h3, fun ys a b => .tw (h.move (upd_ne fun e => (List.nodup_cons.mp nd).1 (by rw [e]; exact h2)) (by rw [b]; exact Same.refl _)) (h5 ys a b)⟩
  | _, _, _, 0, .ot _ _ _, _, e => by simp at e
  | _, _, _, i + 1, .ot h q s, nd, e => by
    subst q
    obtain ⟨t, h1, h2, h3, h5⟩ := Slots.tw_at (i := i) s (List.nodup_append.mp nd).2.1 (by simpa using e)
    exact ⟨t, by simpa using h1, List.mem_append_right _ h2, h3, fun ys a b => .ot (OT.mv _ h (fun x hx => upd_ne fun e => (List.nodup_append.mp nd).2.2 x hx _ h2 e) fun v d r => by rw [b]; exact r) rfl (h5 ys a b)⟩
section
variable {pr : Program} {wd : World} {K : PySem.W.Frag} {O : List Addr} {H : Hp} {σ : List (Option V)} {ρ : List SD} {L : List Addr}
theorem Slots.setW {t l : Addr} {kvs : List (D × D)} {ds : List D} (hx : TDict pr wd K O H t l kvs ds) (hn : l ∉ L) : ∀ {σ : List (Option V)} {ρ : List SD} {L : List Addr} (i : Nat), i < ρ.length → Slots pr wd K O H σ ρ L →
    ∃ L1 L2 L3, Slots pr wd K O H (σ.set i (some (.ref t))) (ρ.set i (.tw l kvs ds)) (L1 ++ l :: L2) ∧ L = L1 ++ L3 ∧ L2.Sublist L3
  | _, _, _, _, h, .nil => by simp at h
  | _, _, L, 0, _, .un s => ⟨[], L, L, .tw hx s, rfl, List.Sublist.refl _⟩
  | _, _, L, 0, _, .val _ s => ⟨[], L, L, .tw hx s, rfl, List.Sublist.refl _⟩
  | _, _, _ :: L, 0, _, .own _ _ s => ⟨[], L, _, .tw hx s, rfl, List.sublist_cons_self _ _⟩
  | _, _, _ :: L, 0, _, .dic _ s => ⟨[], L, _, .tw hx s, rfl, List.sublist_cons_self _ _⟩
  | _, _, _ :: L, 0, _, .dk _ s => ⟨[], L, _, .tw hx s, rfl, List.sublist_cons_self _ _⟩
  | _, _, _ :: L, 0, _, .tw _ s => ⟨[], L, _, .tw hx s, rfl, List.sublist_cons_self _ _⟩
  | _, _, _, i + 1, h, .un s => by
    obtain ⟨L1, L2, L3, h1, h2⟩ := Slots.setW hx hn i (by simpa using h) s
    exact ⟨L1, L2, L3, .un h1, h2⟩
  | _, _, _, i + 1, h, .val q s => by
    obtain ⟨L1, L2, L3, h1, h2⟩ := Slots.setW hx hn i (by simpa using h) s
    exact ⟨L1, L2, L3, .val q h1, h2⟩
  | _, _, _, i + 1, h, .own q r s => by
    obtain ⟨L1, L2, L3, h1, h2, h3⟩ := Slots.setW hx hn i (by simpa using h) s
    exact ⟨_ :: L1, L2, L3, .own q r h1, by rw [h2]; rfl, h3⟩
  | _, _, _, i + 1, h, .dic q s => by
    obtain ⟨L1, L2, L3, h1, h2, h3⟩ := Slots.setW hx hn i (by simpa using h) s
    exact ⟨_ :: L1, L2, L3, .dic q h1, by rw [h2]; rfl, h3⟩
  | _, _, _, i + 1, h, .dk q s => by
    obtain ⟨L1, L2, L3, h1, h2, h3⟩ := Slots.setW hx hn i (by simpa using h) s
    exact ⟨_ :: L1, L2, L3, .dk q h1, by rw [h2]; rfl, h3⟩
  | _, _, _, i + 1, h, .tw q s => by
    obtain ⟨L1, L2, L3, h1, h2, h3⟩ := Slots.setW hx hn i (by simpa using h) s
    exact ⟨_ :: L1, L2, L3, .tw q h1, by rw [h2]; rfl, h3⟩
  | _, _, _, 0, _, .ot _ q s => ⟨[], _, _, .tw hx s, rfl, by rw [q]; exact List.sublist_append_right _ _⟩
  | _, _, _, i + 1, h, .ot p q s => by
    obtain ⟨L1, L2, L3, h1, h2, h3⟩ := Slots.setW hx hn i (by simpa using h) s
    exact ⟨_, L2, L3, .ot p (List.append_assoc _ _ _) h1, by rw [q, h2, List.append_assoc], h3⟩
end
theorem Env.tw_at {P : Hp} {L : List Addr} {n : Nat} {H : Hp} {σ : List (Option V)} {i : Nat} {l : Addr} {kvs : List (D × D)} {ds : List D} (E : Env c P L n H σ ρ) (h : ρ[i]? = some (.tw l kvs ds)) : ∃ t, σ[i]? = some (some (.ref t)) ∧ l ∈ L ++ c.O ∧ TDict c.pr c.wd c.K (L ++ c.O) H t l kvs ds ∧
    ∀ (o : HO) (lvs : List (D × D)), NDict c.pr c.wd c.K (L ++ c.O) (upd H l o) l lvs → Env c P L n (upd H l o) σ (ρ.set i (.tw l lvs ds)) := by
  obtain ⟨Ls, sl, sb⟩ := E.slots
  have nd := sb.nodup E.nd
  obtain ⟨t, h1, h2, h3, _⟩ := sl.tw_at (lvs := kvs) nd h
  have lL := sb.subset h2
  have hm : l ∈ L ++ c.O := List.mem_append_left _ lL
  have hO : l ∉ c.O := (E.fresh l lL).2
  refine ⟨t, h1, hm, h3, fun o lvs hy => ?_⟩
  have bs : Same (hid c.B c.H0) (hid c.B (upd H l o)) := same_upd_old (E.fresh l lL).1 E.base
  obtain ⟨t', g1, g2, g3, g5⟩ := sl.tw_at (lvs := lvs) nd h
  exact { nd := E.nd, fresh := E.fresh, slots := ⟨Ls, g5 o hy (hid_upd_in hm), sb⟩,
          lst := fun a ha => by
            by_cases e : a = l
            · exact ⟨_, by rw [e, upd_same]⟩
            · rw [upd_ne e]; exact E.lst a ha,
          bag := fun b q hb => (E.bag b q hb).move (fun o h => by rw [upd_ne fun e : b = l => hO (e ▸ (E.bO b q hb).1)]; exact h) fun o h => by rw [upd_ne fun e : q = l => hO (e ▸ (E.bO b q hb).2.1)]; exact h,
          base := bs, pers := by rw [hid_upd_in hm]; exact E.pers, bO := E.bO,
          al := fun o ho => by rw [upd_ne fun e : o = l => hO (e ▸ ho)]; exact E.al o ho }
/-! ### a tuple whose head is a dict of one's own -/
theorem ws_freezeW (i : Nat) {l : Addr} {kvs : List (D × D)} {ds : List D} (h : ρ[i]? = some (.tw l kvs ds)) (k : WS c ts (ρ.set i (.val (.tup (.dcn c.pr c.wd kvs :: ds)))) n Ψ) : WS c ts ρ n Ψ := fun P L σ H Dn E A => by
  obtain ⟨L', E', _⟩ := E.freezeW h
  exact k P L' σ H Dn E' A
theorem wt_lookW (i : Nat) {Φ : Nat → Bool → Prop} {l : Addr} {kvs : List (D × D)} {ds : List D} (h : ρ[i]? = some (.tw l kvs ds)) (k : WT c t (ρ.set i (.val (.tup (.dcn c.pr c.wd kvs :: ds)))) n Φ) : WT c t ρ n Φ := fun P L σ H Q E q => by
  obtain ⟨L', E', sub, _⟩ := E.freezeW h
  exact k P L' σ H Q E' fun b n1 H1 s1 j1 k1 => q b n1 H1 s1 j1 k1
theorem we_lookW (i : Nat) {l : Addr} {kvs : List (D × D)} {ds : List D} (h : ρ[i]? = some (.tw l kvs ds)) (k : WE c te (ρ.set i (.val (.tup (.dcn c.pr c.wd kvs :: ds)))) n fun n1 d => plain d = true ∧ Φ n1 d) : WE c te ρ n Φ := fun P L σ H Q E q => by
  obtain ⟨L', E', sub, hL, lL, xs, hx⟩ := E.freezeW h
  refine k P L' σ H Q E' fun v d n1 H1 s1 j1 r1 ⟨hs, k1⟩ => q v d n1 H1 s1 j1 ?_ k1
  have hB : l ∉ c.B := E.notB lL
  have h1 : H1 l = some (.ext (DictBare c.pr c.wd xs l)) := (hid_some.mp (s1 l _ (hid_some.mpr ⟨hB, hx⟩))).2
  exact rp_back (noSeq_ext h1) hL r1 hs
/-- an own dict looked at; what comes out hangs on no dict -/
theorem we_lookKp (i : Nat) {kvs : List (L2.Key × D)} (h : ρ[i]? = some (.dk kvs)) (k : WE c te (ρ.set i (.val (.dct kvs))) n fun n1 d => plain d = true ∧ Φ n1 d) : WE c te ρ n Φ := fun P L σ H Q E q => by
  obtain ⟨L', E', sub, l, xs, hL, lL, hx⟩ := E.freezeK2 h
  refine k P L' σ H Q E' fun v d n1 H1 s1 j1 r1 ⟨hs, k1⟩ => q v d n1 H1 s1 j1 ?_ k1
  have hB : l ∉ c.B := E.notB lL
  have h1 : H1 l = some (.dK xs) := (hid_some.mp (s1 l _ (hid_some.mpr ⟨hB, hx⟩))).2
  exact rp_back (noSeq_dK h1) hL r1 hs
/-- world[0][k] = e -/
theorem ws_wput {i : Nat} {l : Addr} {kvs : List (D × D)} {ds : List D} {tk : TE} (h0 : ρ[i]? = some (.tw l kvs ds)) (hz : kvs.length < 16777216) (h : WE c te ρ n fun n1 vd => WE c tk ρ n1 fun n2 kd => keyD kd = true ∧ Ψ.nx n2 (ρ.set i (.tw l (putD kvs kd vd) ds))) : WS c (tAsg te (gSub (tOp (rIx c.K) (tVar i) (tC (.int 0))) tk (rSetN c.pr c.wd c.K))) ρ n Ψ := fun P L σ H Dn E A => by
  refine h P L σ H _ E fun y vd n1 H1 s1 j1 r1 h1 => ?_
  have E1 := E.step s1 j1
  obtain ⟨t, g1, gL, ⟨vs, g2, _, _⟩, _⟩ := E1.tw_at h0
  refine ⟨.ref t, g1, .inr (.inl ⟨t, _, 0, .ref l, rfl, rfl, same_t same_hid g2, atI_nat (xs := V.ref l :: vs) (j := 0) rfl, ?_⟩)⟩
  refine h1 P L σ H1 _ E1 fun z kd n2 H2 s2 j2 r2 ⟨hk, k⟩ => ?_
  have E2 := E1.step s2 j2
  obtain ⟨t', g1', gL', ⟨vs', g2', g3', g4'⟩, up⟩ := E2.tw_at h0
  refine ⟨L ++ c.O, l, kvs, kd, vd, rfl, gL, g4', r2, hk, r1.mono (E1.sameLO s2), by rw [sizeLine_eq]; exact hz, fun φ hN => ?_⟩
  exact A.nx L n2 _ σ _ (up _ _ hN) k
theorem Env.newAny {P : Hp} {L : List Addr} {n : Nat} {H : Hp} {σ : List (Option V)} {D : Addr} {o : HO} (E : Env c P L n H σ ρ) (hD : H D = none) : Env c P (D :: L) n (upd H D o) σ ρ := by
  have w := E.new hD
  obtain ⟨Ls, sl, sb⟩ := E.slots
  have e0 : hid ((D :: L) ++ c.O) (upd H D o) = hid (L ++ c.O) H := hid_new_in hD
  exact { nd := List.nodup_cons.mpr ⟨w.2.2, E.nd⟩,
          fresh := fun l hl => by
            rcases List.mem_cons.mp hl with e | e
            · subst e; exact ⟨w.1, w.2.1⟩
            · exact E.fresh l e,
          slots := ⟨Ls, sl.move (fun l hl => upd_ne fun e => w.2.2 (e ▸ sb.subset hl)) (by rw [e0]; exact Same.refl _), sb.cons _⟩,
          lst := fun l hl => by
            rcases List.mem_cons.mp hl with e | e
            · subst e; exact ⟨_, upd_same⟩
            · rw [upd_ne fun q : l = D => w.2.2 (q ▸ e)]; exact E.lst l e,
          bag := (E.newT hD).2.1,
          base := E.base.trans (E.newT hD).1,
          pers := by rw [e0]; exact E.pers,
          bO := E.bO,
          al := fun o ho => by rw [upd_ne fun e : o = D => w.2.1 (e ▸ ho)]; exact E.al o ho }
/-- ({}, ..) -/
theorem ws_wnew {i : Nat} (hi : i < ρ.length) (h : WA c as ρ n fun n1 ds => ds.length < 16777216 ∧ ∀ l, Ψ.nx n1 (ρ.set i (.tw l [] ds))) : WS c (tAsg (tTup (tCons (tDNewN c.pr c.wd) as)) (gName i)) ρ n Ψ := fun P L σ H Dn E A => by
  intro p hp hs
  have E1 := E.newAny (o := .ext (DictBare c.pr c.wd [] p)) hp
  have w := E.new hp
  obtain ⟨Ls, sl0, sb⟩ := E.slots
  have nLs : p ∉ Ls := fun q => w.2.2 (sb.subset q)
  refine h P (p :: L) σ _ _ E1 fun vs ds n2 H2 s2 j2 r2 ⟨hz, k⟩ => ?_
  refine ⟨by show vs.length + 1 ≤ _; rw [r2.length, sizeLine_eq]; omega, fun t ht => ?_⟩
  have E2 := E1.step s2 j2
  have hp2 : H2 p = some (.ext (DictBare c.pr c.wd [] p)) := (hid_some.mp (s2 p _ (hid_some.mpr ⟨E1.notB List.mem_cons_self, upd_same⟩))).2
  have T := E2.newT (o := .tup (.ref p :: vs)) ht
  have E3 := E2.step T.1 T.2.1
  obtain ⟨Ls3, sl3, sb3⟩ := E3.slots
  have eL := sl3.inj sl0
  subst eL
  have npt : p ≠ t := fun e => by rw [← e, hp2] at ht; cases ht
  have td : TDict c.pr c.wd c.K ((p :: L) ++ c.O) (upd H2 t (.tup (.ref p :: vs))) t p [] ds := by
    refine ⟨vs, .inl (.inl ?_), r2.mono (rp_upd (K := c.K) ht), [], by rw [upd_ne npt]; exact hp2, hs, .nil⟩
    exact hid_at T.2.2
  obtain ⟨L1, L2, L3, sl4, eL, sub⟩ := Slots.setW td nLs i hi sl3
  have mv : ∃ Lp : List Addr, (L1 ++ p :: L2).Sublist Lp ∧ Lp.Perm (p :: L) := by
    rw [eL] at sb
    have h5 : (L1 ++ L2).Sublist L := (List.Sublist.append_left sub L1).trans sb
    exact ins_sub h5
  obtain ⟨Lp, sLp, pLp⟩ := mv
  have mem : ∀ a, a ∈ Lp ++ c.O ↔ a ∈ (p :: L) ++ c.O := fun a => by
    rw [List.mem_append, List.mem_append, pLp.mem_iff]
  refine A.nx Lp n2 _ _ _ ?_ (k p)
  exact { nd := pLp.nodup_iff.mpr E3.nd,
          fresh := fun l hl => E3.fresh l (pLp.mem_iff.mp hl),
          slots := ⟨_, sl4.move (fun _ _ => rfl) (same_hid_sub fun a ha => (mem a).mp ha), sLp⟩,
          lst := fun l hl => E3.lst l (pLp.mem_iff.mp hl),
          bag := E3.bag,
          base := E3.base,
          pers := E3.pers.trans (same_hid_sub fun a ha => (mem a).mp ha),
          bO := E3.bO, al := E3.al }
/-! ### dicts whose keys are tuples as data -/
theorem r2_ixN {pr : Program} {wd : World} {K : PySem.W.Frag} {Φ : D → Prop} {kvs : List (D × D)} {kd f : D} (hk : keyD kd = true) (hl : lookD kvs kd = some f) (k : Φ f) : R2D K (rIxR pr wd K) (.dcn pr wd kvs) kd Φ := fun O H x y Q rx ry _ q => by
  obtain ⟨l, rfl, nd⟩ := nd_of_rp rx
  exact ⟨O, l, kvs, kd, f, rfl, nd, ry, hk, hl, fun u ru => q u f H (Same.refl _) ru k⟩
def rInN (pr : Program) (wd : World) (K : PySem.W.Frag) : R2 := fun x y H Q => ∃ (O : List Addr) (l : Addr) (kvs : List (D × D)) (kd : D), y = .ref l ∧ NDictR pr wd K O H l kvs ∧ Rp K (hid O H) x kd ∧ keyD kd = true ∧ Q (.bl (lookD kvs kd).isSome) H
theorem r2_inN {pr : Program} {wd : World} {K : PySem.W.Frag} {Φ : D → Prop} {kvs : List (D × D)} {kd : D} (hk : keyD kd = true) (k : Φ (.bl (lookD kvs kd).isSome)) : R2D K (rInN pr wd K) kd (.dcn pr wd kvs) Φ := fun O H x y Q rx ry _ q => by
  obtain ⟨l, rfl, nd⟩ := nd_of_rp ry
  exact ⟨O, l, kvs, kd, rfl, nd, rx, hk, q _ _ H (Same.refl _) (.bl _) k⟩
theorem x_inN {X : Cx} (pr : Program) (wd : World) (K : PySem.W.Frag) (hu : X.A.units + 65 < cLine) (hp : X.prog = pr := by rfl) (hw : X.w = wd := by rfl) (hK : X.K = K := by rfl) : OpR X (compareOp .In) (rInN pr wd K) := by
  subst hp; subst hw; subst hK
  intro pins s σ H x y v u Q I rx ry h
  obtain ⟨O, l, kvs, kd, rfl, ⟨xs, n1, n2, n3⟩, rk, hk, q⟩ := h
  cases ry
  obtain ⟨a, ea, eb, is⟩ := key_is I rk rx hk
  subst eb
  have dd := nd_ofR I n1 n3
  refine wpAny_in_heap (by show X.A.in1.units + 8 < cLine; have : X.A.in1.units = X.A.units + 1 := rfl; omega) is n2 dd ?_
  have e : (lookD kvs kd).isSome = (atKey xs (nk kd)).isSome := by
    rcases ent_look (kd := kd) n3 with ⟨e1, e2⟩ | ⟨v', a', u', w, e1, e2, _⟩
    · rw [e1, e2]; rfl
    · rw [e1, e2]; rfl
  rw [← e]
  exact ⟨.bl _, H, I.tok _, rfl, q⟩
/-! ### dicts of ints and texts -/
theorem we_dnewK (k : Φ n (.dct [])) : WE c tDNewK ρ n Φ := fun P L σ H Q E q => by
  intro p hp
  have z := E.newT (o := .dK []) hp
  exact q _ _ n _ z.1 z.2.1 (.dct (.inl (hid_at z.2.2)) .nil) k
theorem we_kcopy {i : Nat} {kvs : List (L2.Key × D)} (h0 : ρ[i]? = some (.dk kvs)) (k : Φ n (.dct kvs)) : WE c (tCB (rDictD c.K) (tCons (tVar i) tNil)) ρ n Φ := fun P L σ H Q E q => by
  obtain ⟨l, g1, _, ⟨xs, g2, g3⟩, _⟩ := E.dk_at h0
  refine ⟨.ref l, g1, l, xs, rfl, .inl g2, fun p hp => ?_⟩
  have z := E.newT (o := .dK xs) hp
  exact q _ _ n _ z.1 z.2.1 (.dct (.inl (hid_at z.2.2)) (g3.mono (rp_upd (K := c.K) hp))) k
theorem rc_dictK {K : PySem.W.Frag} {Φ : D → Prop} {kvs : List (L2.Key × D)} (k : Φ (.dct kvs)) : RCD K (rDictD K) [.dct kvs] Φ := rc_dict k
/-- two dicts of the same -/
def rEqK (K : PySem.W.Frag) (neg : Bool) : R2 := fun x y H Q => ∃ (O : List Addr) (kvs lvs : List (L2.Key × D)), Rp K (hid O H) x (.dct kvs) ∧ Rp K (hid O H) y (.dct lvs) ∧ kvs.length = lvs.length ∧ (∀ kv ∈ kvs, ∃ d, lookK lvs kv.1 = some d ∧ fit kv.2 = true ∧ fit d = true ∧ eqD kv.2 d = true) ∧ Q (.bl (!neg)) H
theorem r2_eqK {K : PySem.W.Frag} {neg : Bool} {Φ : D → Prop} {kvs lvs : List (L2.Key × D)} (hl : kvs.length = lvs.length) (h : ∀ kv ∈ kvs, ∃ d, lookK lvs kv.1 = some d ∧ fit kv.2 = true ∧ fit d = true ∧ eqD kv.2 d = true) (k : Φ (.bl (!neg))) : R2D K (rEqK K neg) (.dct kvs) (.dct lvs) Φ := fun O H x y Q rx ry _ q =>
  ⟨O, kvs, lvs, rx, ry, hl, h, q _ _ H (Same.refl _) (.bl _) k⟩
theorem hitsD {X : Cx} {pins : List (Addr × Obj)} {σ : L2.St} {H : Hp} {s : Shared} (I : Inv X pins σ H s) {A : Around} (hu : A.in1.units + 64 < cLine) {O : List Addr} {ls : List (L2.Key × V)} {lvs : List (L2.Key × D)} (rl : RpKs X.K (hid O H) ls lvs) {vb : List (L2.Key × Value)} (rb : KV ls vb) :
    ∀ {ks : List (L2.Key × V)} {kvs : List (L2.Key × D)}, RpKs X.K (hid O H) ks kvs → ∀ {va : List (L2.Key × Value)}, KV ks va → (∀ kv ∈ kvs, ∃ d, lookK lvs kv.1 = some d ∧ fit kv.2 = true ∧ fit d = true ∧ eqD kv.2 d = true) → PySem.W.KeqHits A.in1 s vb va true
  | _, _, .nil, _, ra, _ => by cases ra; exact .nil
  | _, _, .cons (x := x) h r, _, ra, hp => by
    cases ra with
    | @cons _ q _ qs g t =>
      obtain ⟨g1, g2⟩ := g
      obtain ⟨d, e1, e2, e3, e4⟩ := hp _ List.mem_cons_self
      obtain ⟨u, hu1, ru⟩ := rl.look.1 d e1
      have rr : RelO (some u) (valueAt vb x) := by rw [← hu1]; exact rb.val x
      obtain ⟨y, hy, ry⟩ := rr.some_of
      obtain ⟨key, v⟩ := q
      have g1' : x = key := g1
      subst g1'
      obtain ⟨as, r1⟩ := Dp.reads I _ _ v (Dp.mono same_hid (h.dp (fit_p e2))) g2
      obtain ⟨bs, r2⟩ := Dp.reads I _ _ y (Dp.mono same_hid (ru.dp (fit_p e3))) ry
      have z := PySem.W.keq_at (A := A) r1 r2 (fit_s e2) (fit_s e3) hu
      rw [show PyData.eqv (dpy _) (dpy d) = true from e4] at z
      exact .hit (b := true) hy z (hitsD I hu rl rb r t fun kv hk => hp kv (List.mem_cons_of_mem _ hk))
theorem x_neK {X : Cx} (K : PySem.W.Frag) (hu : X.A.units + 65 < cLine) (hK : X.K = K := by rfl) : OpR X (compareOp .NotEq) (rEqK K true) := by
  subst hK
  intro pins s σ H x y v u Q I rx ry h
  obtain ⟨O, kvs, lvs, hx, hy, hl, hh, q⟩ := h
  cases hx with
  | @dct a ks _ ha ra =>
    cases hy with
    | @dct b ls _ hb rb =>
      cases rx
      cases ry
      obtain ⟨_, ya, va, va', da⟩ := (same_rd same_hid ha).ok I.hok
      obtain ⟨_, yb, vb, vb', db⟩ := (same_rd same_hid hb).ok I.hok
      refine PySem.W.keq_ne (knd := mixKind X.prog X.w) (r := true) ya yb da db (by omega) (fun _ => hitsD (A := X.A) I (by show X.A.units + 1 + 64 < cLine; omega) rb vb' ra va' hh) ?_
      have e : va.length = vb.length := by rw [← va'.length, ← vb'.length, ra.length, rb.length]; exact hl
      rw [show (va.length == vb.length && true) = true from by rw [e]; simp]
      exact ⟨.bl false, H, I, rfl, q⟩
/-! ### own lists -/
theorem rp_scals {K : PySem.W.Frag} {H H' : Hp} : ∀ {xs : List V} {es : List D}, RpAll K H xs es → (∀ e ∈ es, scalar e = true) → RpAll K H' xs es
  | _, _, .nil, _ => .nil
  | _, _, .cons h r, hs => .cons (h.scal (hs _ List.mem_cons_self)) (rp_scals r fun e he => hs e (List.mem_cons_of_mem _ he))
/-- a new list of scalars, made while an own list is looked at -/
theorem wf_look (i : Nat) {ds : List D} {Φ : Nat → List D → Prop} (h : ρ[i]? = some (.own ds)) (k : WF c te (ρ.set i (.val (.lst ds))) n fun n1 es => (∀ e ∈ es, scalar e = true) ∧ Φ n1 es) : WF c te ρ n Φ := fun P L σ H Q E q => by
  obtain ⟨L', E', sub⟩ := E.freeze h
  refine k P L' σ H Q E' fun p xs es n1 H1 s1 hp hp1 r1 j1 ⟨hs, k1⟩ => q p xs es n1 H1 s1 hp hp1 ?_ j1 k1
  exact rp_scals r1 hs
/-- x.append(y.pop(e)) -/
theorem ws_appendPop {i j : Nat} {ds es : List D} (h0 : ρ[i]? = some (.own ds)) (h1 : ρ[j]? = some (.own es)) (hij : i ≠ j) (h : WE c te ρ n fun n1 d => ∃ (k : Nat) (y : D), d = .int (k : Int) ∧ es[k]? = some y ∧ k < 2 ^ 62 ∧ ds.length < sizeLine ∧ Ψ.nx n1 ((ρ.set j (.own (es.eraseIdx k))).set i (.own (ds ++ [y])))) :
    WS c (tDrop (tBM c.K "list" rAppend (tVar i) (tCons (tBM c.K "list" rPopAt (tVar j) (tCons te tNil)) tNil))) ρ n Ψ := fun P L σ H Dn E A => by
  obtain ⟨l, xs, a1, a2, a3, a4⟩ := E.own_at h0
  obtain ⟨m, ys, b1, b2, b3, b4⟩ := E.own_at h1
  refine ⟨.ref l, a1, .inl ⟨rfl, xs, .inl (.inl a2)⟩, ?_⟩
  refine ⟨.ref m, b1, .inl ⟨rfl, ys, .inl (.inl b2)⟩, ?_⟩
  refine h P L σ H _ E fun v d n1 H1 s1 j1 r1 ⟨k, y, e, hk, hk2, hz, kk⟩ => ?_
  subst e
  cases r1
  have E1 := E.step s1 j1
  obtain ⟨m', ys', c1, c2, c3, c4⟩ := E1.own_at h1
  rw [b1] at c1
  cases c1
  obtain ⟨u, hu, ru⟩ := c3.get' hk
  have hlt : k < ys'.length := (List.getElem?_eq_some_iff.mp hu).1
  refine ⟨m, ys', (k : Int), k, u, rfl, rfl, c2, by omega, by omega, ?_, hu, ?_⟩
  · exact (ixN_seq (n := ys'.length) (i := (k : Int)) (j := k) (by unfold ixN; rw [if_pos (by omega), if_pos (by omega)]; simp)).1
  have E2 := (c4 (ys'.eraseIdx k) (es.eraseIdx k) (c3.eraseIdx k)).1
  have Ep := (E1.pers'.own_at h1)
  obtain ⟨m'', ys'', f1, f2, f3, f4⟩ := Ep
  rw [b1] at f1
  cases f1
  have E2p := (f4 (ys'.eraseIdx k) (es.eraseIdx k) (c3.eraseIdx k)).1.pers
  have h0' : (ρ.set j (.own (es.eraseIdx k)))[i]? = some (.own ds) := by rw [List.getElem?_set_ne (Ne.symm hij)]; exact h0
  obtain ⟨l', xs', g1, g2, g3, g4⟩ := E2.own_at h0'
  rw [a1] at g1
  cases g1
  refine ⟨l, xs', u, rfl, rfl, g2, by rw [g3.length]; exact hz, ?_⟩
  exact A.nx L n1 _ σ _ (g4 (xs' ++ [u]) (ds ++ [y]) (g3.append (.cons (ru.mono E2p) .nil))).1 kk
/-- x[i] = e, x one's own -/
theorem ws_lset {i : Nat} {ds : List D} {tk : TE} (h0 : ρ[i]? = some (.own ds)) (h : WE c te ρ n fun n1 vd => WE c tk ρ n1 fun n2 kd => ∃ k : Nat, kd = .int (k : Int) ∧ k < ds.length ∧ Ψ.nx n2 (ρ.set i (.own (ds.set k vd)))) : WS c (tAsg te (gSub (tVar i) tk rSetL)) ρ n Ψ := fun P L σ H Dn E A => by
  refine h P L σ H _ E fun y vd n1 H1 s1 j1 r1 h1 => ?_
  have E1 := E.step s1 j1
  obtain ⟨l, xs, a1, a2, a3, a4⟩ := E1.own_at h0
  refine ⟨.ref l, a1, ?_⟩
  refine h1 P L σ H1 _ E1 fun z kd n2 H2 s2 j2 r2 ⟨k, e, hk, kk⟩ => ?_
  subst e
  cases r2
  have E2 := E1.step s2 j2
  obtain ⟨l', xs', g1, g2, g3, g4⟩ := E2.own_at h0
  rw [a1] at g1
  cases g1
  refine ⟨l, xs', (k : Int), k, rfl, rfl, g2, ?_, ?_⟩
  · rw [g3.length]
    unfold ixN
    rw [if_pos (by omega), if_pos (by omega)]; simp
  · exact A.nx L n2 _ σ _ (g4 _ _ (g3.set (r1.mono (E1.sameLO s2)) k)).1 kk
end
end L3
/-! L3u: sorted(d, reverse=True) of a dict with int keys. -/
namespace L3
open PySem L2 PySem.W PyProof.Rows PySem.Calls PyProof.V
section
variable {prog : Program} {w : World} {A : Around} {E : Value → Shared → Prop} {s : Shared}
theorem sorted_dictR {ns : List Int} {b : Bool} {d : Addr} {es : Array DictEntry} {ep : Nat} {Q : Value → Shared → Prop} (hh : A.handled = none) (lo : (d == sysModules) = false) (hD : s.heap.DictRaw d es ep)
    (hi : IntsAre (es.toList.map (·.key)) ns) (hn : es.size ≤ sizeLine)
    (h : ∀ (h1 h2 : Heap) (tk : Nat) (out : Array Value) (c : Nat) (ns' : List Int), (∀ b o, s.heap.get? b = some o → h1.get? b = some o) → (∀ b o, h1.get? b = some o → h2.get? b = some o) → h2.get? h1.objs.size = some { cls := .type "list", data := .seq out c } → IntsAre out.toList ns' → ns'.Perm ns → Q (.ref h1.objs.size) { s with heap := h2, toks := tk }) :
    wpAny (model prog w) A (call (.builtin "sorted") [.ref d] [(Str.ofString "reverse", .bool b)]) Q E s := by
  refine call_function_entry_kw kind_sorted plain_sorted entry_sorted (PyProof.Rows.args_sorted_rev _ _) ?_
  unfold Builtin.«sorted»
  refine wpAny_bind (m := checkCount "sorted" 1 1 _) (wpAny_pure ?_)
  refine wpAny_bind (kdu_collect (A := A.in1) (KdlSrc.rawDict lo) hh hD hn fun h' tk acc hkp hacc => ?_)
  have hl : acc.toList = es.toList.map (·.key) := by
    apply List.ext_getElem?
    intro j
    by_cases hj : j < acc.size
    · obtain ⟨hi, hv⟩ := hacc.2 j acc[j] (by simp [hj])
      rw [Array.getElem?_toList, Array.getElem?_eq_getElem hj, List.getElem?_map, Array.getElem?_toList, Array.getElem?_eq_getElem hi, hv]; rfl
    · have hs : acc.size = es.size := hacc.1
      rw [Array.getElem?_toList, Array.getElem?_eq_none (by omega), List.getElem?_map, Array.getElem?_toList, Array.getElem?_eq_none (by omega)]; rfl
  have hz : acc.toList.length ≤ sizeLine := by rw [Array.length_toList, hacc.1]; exact hn
  refine wpAny_bind (wpAny_newList ?_ hz)
  rw [hl] at hz ⊢
  generalize hvs : es.toList.map (·.key) = vs at hi hz ⊢
  have ho : (h'.push { cls := .type "list", data := .seq vs.toArray }).get? h'.objs.size = some (seqObj "list" vs.toArray 0) := Heap.get?_push_size _ rfl
  refine wpAny_bind (wpAny_holding (wpAny_call_entry_kw slot_list_sort ⟨_, ho, rfl⟩ entry_list_sort ?_ (PyProof.Rows.args_list_sort_rev _ _)))
  refine SrtR.list_sort_ordR (s := { s with heap := h'.push { cls := .type "list", data := .seq vs.toArray }, toks := tk }) SrtO.swo_int ho hz (fun h2 => SrtO.ints_sortable hi h2) fun out h1 h2 => ?_
  obtain ⟨ns', k1, k2, _⟩ := SrtR.ints_outR hi h1 h2
  obtain ⟨c, hc⟩ := sortedHeap_at (out := (if b = true then out.toArray.reverse else out.toArray)) ho
  refine ⟨_, rfl, ?_⟩
  refine wpAny_pure ⟨_, rfl, h h' _ tk _ c ns' hkp ?_ hc k1 k2⟩
  intro b o q
  rw [sortedHeap_old (Nat.ne_of_lt (Heap.lt_size q)) (Nat.lt_of_lt_of_le (Heap.lt_size q) (by rw [Heap.size_push]; exact Nat.le_succ _))]
  exact Heap.get?_push_of_some _ q
end
def rSortKR (K : PySem.W.Frag) : List V → List V → Hp → VK → Prop := fun vs zs H Q => ∃ (O : List Addr) (v : V) (kvs : List (L2.Key × D)) (ns : List Int), vs = [v] ∧ zs = [.bl true] ∧ Rp K (hid O H) v (.dct kvs) ∧ kvs.map (·.1) = ns.map Sum.inl ∧
  ∀ (ns' : List Int) (p : Addr), ns'.Perm ns → H p = none → Q (.ref p) (upd H p (.lst (ns'.map V.int)))
theorem x_sortKR {X : Cx} (K : PySem.W.Frag) (hcalm : X.calm = true := by rfl) (hK : X.K = K := by rfl) : CallRK X (.builtin "sorted") [Str.ofString "reverse"] (rSortKR K) := by
  subst hK
  intro pins s σ H vs zs us ws Q I r rz h
  obtain ⟨O, v, kvs, ns, rfl, rfl, hx, hk, q⟩ := h
  cases hx with
  | @dct a xs _ hs rk =>
    obtain rfl := Vals.ref1 r
    obtain ⟨w1, rfl, e1⟩ := L2.vals1 rz
    obtain rfl : w1 = Value.bool true := e1
    obtain ⟨z, ya, va, va', da⟩ := (same_rd same_hid hs).ok I.hok
    obtain ⟨oa, es, ep, hoa, hcl, hda, hka, hpa, _⟩ := da
    have hlen : va.length = es.size := by rw [← hpa.length]; exact Array.length_toList
    have hll : xs.length = va.length := va'.length
    have hn : es.size ≤ sizeLine := by rw [← hlen, ← hll]; exact z
    have hi : IntsAre (es.toList.map (·.key)) ns := by
      have key : ∀ {es : List DictEntry} {va : List (L2.Key × Value)}, Pairs (mixKind X.prog X.w) es va → ∀ {xs : List (L2.Key × V)} {kvs : List (L2.Key × D)} {ns : List Int}, KV xs va → RpKs X.K (hid O H) xs kvs → kvs.map (·.1) = ns.map Sum.inl → IntsAre (es.map (·.key)) ns := by
        intro es va hp
        induction hp with
        | nil =>
          intro xs kvs ns h1 h2 h3
          cases h1
          cases h2
          cases ns with
          | nil => exact .nil
          | cons _ _ => cases h3
        | @cons e kv es va g1 g2 _ ih =>
          intro xs kvs ns h1 h2 h3
          cases h1 with
          | cons p1 p2 =>
            cases h2 with
            | cons r1 r2 =>
              cases ns with
              | nil => cases h3
              | cons i ns =>
                have h3' := List.cons.inj h3
                have e0 : kv.1 = Sum.inl i := p1.1.symm.trans h3'.1
                have g1' : keyIs kv.1 e.key = true := g1
                rw [e0] at g1'
                obtain ⟨j, t, e1, e2⟩ | ⟨x, t, e1, e2⟩ := keyIs_shape g1'
                · cases e1
                  show IntsAre (e.key :: es.map (·.key)) _
                  rw [e2]
                  exact .cons _ _ (ih p2 r2 h3'.2)
                · cases e1
      exact key hpa va' rk hk
    refine sorted_dictR (s := s) (I.ok.hd hcalm) ya ⟨oa, hoa, hcl, hda⟩ hi hn fun h1 h2 tk out c ns' k1 k2 hc io hp => ?_
    have I1 : Inv X pins σ H { s with heap := h1 } := I.kept (t' := s.toks) k1
    have hlo : (ns'.map V.int).length ≤ sizeLine := by
      rw [List.length_map, hp.length_eq]
      have : ns.length = kvs.length := by
        have := congrArg List.length hk
        rw [List.length_map, List.length_map] at this
        exact this.symm
      rw [this, ← rk.length]; exact z
    have e0 : out.toList.toArray = out := Array.toArray_toList
    exact ⟨.ref _, upd H h1.objs.size (.lst (ns'.map V.int)), I1.laid (t' := tk) k2 (Nat.le_refl _) ⟨hlo, out.toList, c, L2.vals_of_ints io, by rw [e0]; exact hc⟩, rfl, q ns' _ hp (I1.hok.fresh (Nat.le_refl _))⟩
section
variable {c : Ctx} {ρ : List SD} {n : Nat} {ta tk : TA} {Φ : Nat → D → Prop}
/-- a built-in called with keywords -/
theorem we_ckw {r : List V → List V → Hp → VK → Prop} (h : WA c ta ρ n fun n1 ds => WA c tk ρ n1 fun n2 es => ∀ (O : List Addr) (H : Hp) (vs zs : List V) (Q : VK), RpAll c.K (hid O H) vs ds → RpAll c.K (hid O H) zs es → (∀ p, H p = none → p ∉ O) → (∀ v f H', Same H H' → Rp c.K (hid O H') v f → Φ n2 f → Q v H') → r vs zs H Q) : WE c (tCKw r ta tk) ρ n Φ := fun P L σ H Q E q => by
  refine h P L σ H _ E fun vs ds n1 H1 s1 j1 r1 h1 => ?_
  have E1 := E.step s1 j1
  refine h1 P L σ H1 _ E1 fun zs es n2 H2 s2 j2 r2 h2 => ?_
  have E2 := E1.step s2 j2
  refine h2 (L ++ c.O) H2 vs zs Q (r1.mono (E1.sameLO s2)) r2 E2.noO fun v f H' s r k => ?_
  have z := E2.same s
  exact q v f n2 H' ((s1.trans s2).trans z.1) z.2 r k
theorem we_sortKR (h : WA c ta ρ n fun n1 ds => ∃ (kvs : List (L2.Key × D)) (ns : List Int), ds = [.dct kvs] ∧ kvs.map (·.1) = ns.map Sum.inl ∧ WA c tk ρ n1 fun n2 es => es = [.bl true] ∧ ∀ ns' : List Int, ns'.Perm ns → Φ n2 (.lst (ns'.map .int))) : WE c (tCKw (rSortKR c.K) ta tk) ρ n Φ := we_ckw fun P L σ H Q E q => h P L σ H Q E fun vs ds n1 H1 s1 j1 r1 ⟨kvs, ns, e, hk, h2⟩ => by
  subst e
  refine q vs _ n1 H1 s1 j1 r1 fun P L σ H Q E q => h2 P L σ H Q E fun zs es n2 H2 s2 j2 r2 ⟨e, kk⟩ => ?_
  subst e
  refine q zs _ n2 H2 s2 j2 r2 fun O H xs ys Q rx ry no qq => ?_
  obtain ⟨v, rfl, rv⟩ := rx.one
  obtain ⟨u, rfl, ru⟩ := ry.one
  cases ru
  exact ⟨O, v, kvs, ns, rfl, rfl, rv, hk, fun ns' p hp hpn => qq _ _ _ (same_upd_new hpn) (.lst (.inl (hid_at (no p hpn))) (RpAll.ofInts ns')) (kk ns' hp)⟩
end
end L3
/-! L3v: an own list looked at; what comes out has no lists. -/
namespace L3
open PySem L2
mutual
def noLst : D → Bool
  | .lst _ => false
  | .tup xs => noLstAll xs
  | .obj _ _ => false
  | .dct _ => false
  | .dcn _ _ _ => false
  | .adr _ => false
  | .ty _ => false
  | .er _ _ => false
  | _ => true
def noLstAll : List D → Bool
  | [] => true
  | x :: xs => noLst x && noLstAll xs
end
def NoTup (H : Hp) (l : Addr) : Prop := ∀ xs, ¬ Rd H l (.tup xs)
theorem noTup_lst {H : Hp} {l : Addr} {ys : List V} (h : H l = some (.lst ys)) : NoTup H l := fun xs => by
  rintro (q | ⟨o, q⟩) <;> (rw [h] at q; cases q)
mutual
theorem rt_drop {K : PySem.W.Frag} {O : List Addr} {H : Hp} {l : Addr} (hl : NoTup H l) : ∀ (d : D) (v : V), Rp K (hid O H) v d → noLst d = true → Rp K (hid (l :: O) H) v d
  | .non, _, h, _ => by cases h; exact .non
  | .bl b, _, h, _ => by cases h; exact .bl b
  | .int i, _, h, _ => by cases h; exact .int i
  | .str x, _, h, _ => by cases h; exact .str x
  | .lst xs, _, h, p => by cases p
  | .tup xs, _, h, p => by
    cases h with
    | tup h r =>
      refine .tup ?_ (rt_drops hl xs _ r p)
      rcases h with h | h
      · exact .inl (rd_drop (hl _) h)
      · exact .inr h
  | .obj _ _, _, _, p => by cases p
  | .adr _, _, _, p => by cases p
  | .ty _, _, _, p => by cases p
  | .er _ _, _, _, p => by cases p
  | .dct _, _, _, p => by cases p
  | .dcn _ _ _, _, _, p => by cases p
theorem rt_drops {K : PySem.W.Frag} {O : List Addr} {H : Hp} {l : Addr} (hl : NoTup H l) : ∀ (ds : List D) (vs : List V), RpAll K (hid O H) vs ds → noLstAll ds = true → RpAll K (hid (l :: O) H) vs ds
  | [], _, h, _ => by cases h; exact .nil
  | x :: xs, _, h, p => by
    cases h with
    | cons h r =>
      have p' : (noLst x && noLstAll xs) = true := p
      rw [Bool.and_eq_true] at p'
      exact .cons (rt_drop hl x _ h p'.1) (rt_drops hl xs _ r p'.2)
end
section
variable {c : Ctx} {ρ : List SD} {n : Nat} {te : TE} {Φ : Nat → D → Prop}
theorem Env.freeze2 {P : Hp} {L : List Addr} {n : Nat} {H : Hp} {σ : List (Option V)} {i : Nat} {ds : List D} (E : Env c P L n H σ ρ) (h : ρ[i]? = some (.own ds)) : ∃ L', Env c P L' n H σ (ρ.set i (.val (.lst ds))) ∧ L'.Sublist L ∧ ∃ l xs, (∀ a ∈ L, a = l ∨ a ∈ L') ∧ l ∈ L ∧ H l = some (.lst xs) := by
  obtain ⟨Ls, sl, sb⟩ := E.slots
  obtain ⟨L1, l, L2, xs, h1, h2, h3, h4⟩ := sl.freeze h
  have lL : l ∈ L := sb.subset (by rw [h1]; simp)
  have sub : (L.erase l).Sublist L := List.erase_sublist
  have nl : l ∉ L.erase l := E.nd.not_mem_erase
  have sb2 : (L1 ++ L2).Sublist (L.erase l) := by
    have nd := sb.nodup E.nd
    rw [h1] at nd
    have n1 : l ∉ L1 := fun q => by
      have := (List.nodup_append.mp nd).2.2 l q l List.mem_cons_self
      exact this rfl
    have q : (Ls.erase l).Sublist (L.erase l) := sb.erase l
    rw [h1, List.erase_append_right _ n1, List.erase_cons_head] at q
    exact q
  have nO : l ∉ (L.erase l) ++ c.O := fun q => by
    rcases List.mem_append.mp q with q | q
    · exact nl q
    · exact (E.fresh l lL).2 q
  have se : Same (hid (L ++ c.O) H) (hid ((L.erase l) ++ c.O) H) := same_hid_sub fun a ha => by
    rcases List.mem_append.mp ha with q | q
    · exact List.mem_append_left _ (sub.subset q)
    · exact List.mem_append_right _ q
  exact ⟨L.erase l, { nd := sub.nodup E.nd, fresh := fun l hl => E.fresh l (sub.subset hl), slots := ⟨_, h4 _ se nO, sb2⟩, lst := fun l hl => E.lst l (sub.subset hl), base := E.base, pers := E.pers.trans se, bO := E.bO, al := E.al, bag := E.bag }, sub, l, xs, fun a ha => by by_cases q : a = l; exact .inl q; exact .inr ((List.mem_erase_of_ne q).mpr ha), lL, h2⟩
theorem we_lookT (i : Nat) {ds : List D} (h : ρ[i]? = some (.own ds)) (k : WE c te (ρ.set i (.val (.lst ds))) n fun n1 d => noLst d = true ∧ Φ n1 d) : WE c te ρ n Φ := fun P L σ H Q E q => by
  obtain ⟨L', E', sub, l, xs, hL, lL, hx⟩ := E.freeze2 h
  refine k P L' σ H Q E' fun v d n1 H1 s1 j1 r1 ⟨hs, k1⟩ => q v d n1 H1 s1 j1 ?_ k1
  have hB : l ∉ c.B := E.notB lL
  have h1 : H1 l = some (.lst xs) := (hid_some.mp (s1 l _ (hid_some.mpr ⟨hB, hx⟩))).2
  exact (rt_drop (noTup_lst h1) d v r1 hs).mono (same_hid_sub fun a ha => by
    rcases List.mem_append.mp ha with q | q
    · rcases hL a q with e | e
      · rw [e]; exact List.mem_cons_self
      · exact List.mem_cons_of_mem _ (List.mem_append_left _ e)
    · exact List.mem_cons_of_mem _ (List.mem_append_right _ q))
end
end L3
/-! L3w: for k in d; list(d), len(d), isinstance(d, dict), d == e. -/
namespace L3
open PySem L2
def tLockOr (t : TS) : TS := fun D σ H => tLock t D σ H ∨ t D σ H
theorem ps_lockOr {X : Cx} {st : Stmt} {t : TS} (h : PS X st t) : PS X st (tLockOr t) := by
  refine ⟨fun pins s σ H D I hw => ?_⟩
  rcases hw with hw | hw
  · exact (ps_lock h).run pins s σ H D I hw
  · exact h.run pins s σ H D I hw
/-! ### a dict, locked or not -/
def DkC (xs : List (L2.Key × V)) (o : Option HO) : Prop := o = some (.dK xs) ∨ ∃ od, o = some (.frz od (.dK xs))
/-- two heaps that agree but for the lock of one dict -/
structure Ag (d : Addr) (xs : List (L2.Key × V)) (H H' : Hp) : Prop where
  off : ∀ a, a ≠ d → H' a = H a
  a1 : DkC xs (H d)
  a2 : DkC xs (H' d)
section
variable {d : Addr} {xs : List (L2.Key × V)} {H H' : Hp}
theorem Ag.symm (A : Ag d xs H H') : Ag d xs H' H := ⟨fun a h => (A.off a h).symm, A.a2, A.a1⟩
theorem Ag.hid {O : List Addr} (A : Ag d xs H H') (h : d ∉ O) : Ag d xs (hid O H) (hid O H') := ⟨fun a ha => by
  unfold L3.hid
  by_cases q : a ∈ O
  · rw [if_pos q, if_pos q]
  · rw [if_neg q, if_neg q]; exact A.off a ha, by rw [hid_out h]; exact A.a1, by rw [hid_out h]; exact A.a2⟩
theorem Ag.lst (A : Ag d xs H H') {a : Addr} {ys : List V} (h : Rd H a (.lst ys)) : Rd H' a (.lst ys) := by
  have ne : a ≠ d := fun e => by
    subst e
    rcases h with h | ⟨o, h⟩ <;> rcases A.a1 with q | ⟨od, q⟩ <;> (rw [h] at q; cases q)
  unfold Rd
  rw [A.off a ne]; exact h
theorem Ag.tup (A : Ag d xs H H') {a : Addr} {ys : List V} (h : Rd H a (.tup ys)) : Rd H' a (.tup ys) := by
  have ne : a ≠ d := fun e => by
    subst e
    rcases h with h | ⟨o, h⟩ <;> rcases A.a1 with q | ⟨od, q⟩ <;> (rw [h] at q; cases q)
  unfold Rd
  rw [A.off a ne]; exact h
theorem Ag.sqt (A : Ag d xs H H') {K : PySem.W.Frag} {a : Addr} {ys : List V} (h : SqT K H a ys) : SqT K H' a ys := by
  rcases h with h | h
  · exact .inl (A.tup h)
  · exact .inr h
theorem Ag.dK (A : Ag d xs H H') {a : Addr} {ys : List (L2.Key × V)} (h : Rd H a (.dK ys)) : Rd H' a (.dK ys) := by
  by_cases e : a = d
  · subst e
    have ey : ys = xs := by rcases h with h | ⟨o, h⟩ <;> rcases A.a1 with q | ⟨od, q⟩ <;> (rw [h] at q; cases q; try rfl)
    subst ey
    rcases A.a2 with q | ⟨od, q⟩
    · exact .inl q
    · exact .inr ⟨od, q⟩
  · unfold Rd
    rw [A.off a e]; exact h
theorem Ag.ne {a : Addr} {o : HO} (A : Ag d xs H H') (h : H a = some o) (n1 : ∀ ys, o ≠ .dK ys) (n2 : ∀ od u, o ≠ .frz od u) : a ≠ d := fun e => by
  subst e
  rcases A.a1 with q | ⟨od, q⟩
  · rw [h] at q; exact n1 _ (Option.some.inj q)
  · rw [h] at q; exact n2 _ _ (Option.some.inj q)
theorem Ag.ins (A : Ag d xs H H') {a C dx : Addr} {fs : List (Str × V)} (h : H a = some (.ins C dx fs)) : H' a = some (.ins C dx fs) := by
  rw [A.off a (A.ne h (fun _ => nofun) fun _ _ => nofun)]; exact h
theorem Ag.rext (A : Ag d xs H H') {a : Addr} {φ : Heap → Prop} (h : Rd H a (.ext φ)) : Rd H' a (.ext φ) := by
  have ne : a ≠ d := fun e => by
    subst e
    rcases h with h | ⟨o, h⟩ <;> rcases A.a1 with q | ⟨od, q⟩ <;> (rw [h] at q; cases q)
  unfold Rd
  rw [A.off a ne]; exact h
theorem Ag.ext (A : Ag d xs H H') {a : Addr} {φ : Heap → Prop} (h : H a = some (.ext φ)) : H' a = some (.ext φ) := by
  rw [A.off a (A.ne h (fun _ => nofun) fun _ _ => nofun)]; exact h
mutual
theorem Rp.ag {K : PySem.W.Frag} {d : Addr} {xs : List (L2.Key × V)} {H H' : Hp} (A : Ag d xs H H') : ∀ {v : V} {x : D}, Rp K H v x → Rp K H' v x
  | _, _, .non => .non
  | _, _, .bl b => .bl b
  | _, _, .int i => .int i
  | _, _, .str x => .str x
  | _, _, .lst h r => .lst (A.lst h) (RpAll.ag A r)
  | _, _, .tup h r => .tup (A.sqt h) (RpAll.ag A r)
  | _, _, .obj h r => .obj (A.ins h) (RpFs.ag A r)
  | _, _, .adr a => .adr a
  | _, _, .ty n => .ty n
  | _, _, .er h1 h2 r => .er (A.rext h1) (A.rext h2) (RpFs.ag A r)
  | _, _, .dct h r => .dct (A.dK h) (RpKs.ag A r)
  | _, _, .dcn h s r => .dcn (A.rext h) s (RpNs.ag A r)
theorem RpAll.ag {K : PySem.W.Frag} {d : Addr} {xs : List (L2.Key × V)} {H H' : Hp} (A : Ag d xs H H') : ∀ {vs : List V} {ds : List D}, RpAll K H vs ds → RpAll K H' vs ds
  | _, _, .nil => .nil
  | _, _, .cons h r => .cons (Rp.ag A h) (RpAll.ag A r)
theorem RpFs.ag {K : PySem.W.Frag} {d : Addr} {xs : List (L2.Key × V)} {H H' : Hp} (A : Ag d xs H H') : ∀ {vs : List (Str × V)} {ds : List (Str × D)}, RpFs K H vs ds → RpFs K H' vs ds
  | _, _, .nil => .nil
  | _, _, .cons h r => .cons (Rp.ag A h) (RpFs.ag A r)
theorem RpKs.ag {K : PySem.W.Frag} {d : Addr} {xs : List (L2.Key × V)} {H H' : Hp} (A : Ag d xs H H') : ∀ {vs : List (L2.Key × V)} {ds : List (L2.Key × D)}, RpKs K H vs ds → RpKs K H' vs ds
  | _, _, .nil => .nil
  | _, _, .cons h r => .cons (Rp.ag A h) (RpKs.ag A r)
theorem RpNs.ag {K : PySem.W.Frag} {d : Addr} {xs : List (L2.Key × V)} {H H' : Hp} (A : Ag d xs H H') : ∀ {vs : List (NestedKey × Addr × Value)} {ds : List (D × D)}, RpNs K H vs ds → RpNs K H' vs ds
  | _, _, .nil => .nil
  | _, _, .cons a b h w v r => .cons a b (Rp.ag A h) w (Rp.ag A v) (RpNs.ag A r)
end
theorem NDict.ag {pr : Program} {wd : World} {K : PySem.W.Frag} {O : List Addr} {l : Addr} {kvs : List (D × D)} (A : Ag d xs H H') (hd : d ∉ O) (h : NDict pr wd K O H l kvs) : NDict pr wd K O H' l kvs := by
  obtain ⟨ys, h1, h2, h3⟩ := h
  exact ⟨ys, A.ext h1, h2, ((RpNs.of h3).ag (A.hid hd)).pair⟩
theorem Slots.ag {pr : Program} {wd : World} {K : PySem.W.Frag} {O : List Addr} (A : Ag d xs H H') (hd : d ∉ O) : ∀ {σ : List (Option V)} {ρ : List SD} {L : List Addr}, Slots pr wd K O H σ ρ L → d ∉ L → Slots pr wd K O H' σ ρ L
  | _, _, _, .nil, _ => .nil
  | _, _, _, .un s, n => .un (Slots.ag A hd s n)
  | _, _, _, .val h s, n => .val (h.ag (A.hid hd)) (Slots.ag A hd s n)
  | _, _, _, .own (l := l) h r s, n => .own (by rw [A.off l fun e => n (e ▸ List.mem_cons_self)]; exact h) (r.ag (A.hid hd)) (Slots.ag A hd s fun q => n (List.mem_cons_of_mem _ q))
  | _, _, _, .dic h s, n => .dic (h.ag A hd) (Slots.ag A hd s fun q => n (List.mem_cons_of_mem _ q))
  | _, _, _, .dk (l := l) ⟨ys, h, r⟩ s, n => .dk ⟨ys, by rw [A.off l fun e => n (e ▸ List.mem_cons_self)]; exact h, r.ag (A.hid hd)⟩ (Slots.ag A hd s fun q => n (List.mem_cons_of_mem _ q))
  | _, _, _, .tw ⟨vs, h, r, q⟩ s, n => .tw ⟨vs, (A.hid hd).sqt h, r.ag (A.hid hd), q.ag A hd⟩ (Slots.ag A hd s fun q => n (List.mem_cons_of_mem _ q))
  | _, _, _, .ot h q s, n => .ot (OT.mv _ h (fun l hl => A.off l fun e => n (by rw [q, ← e]; exact List.mem_append_left _ hl)) fun _ _ r => r.ag (A.hid hd)) q (Slots.ag A hd s fun z => n (by rw [q]; exact List.mem_append_right _ z))
theorem BagOk.ag {b q : Addr} {n : Nat} (A : Ag d xs H H') (h : BagOk b q n H) : BagOk b q n H' := by
  obtain ⟨t, r, cs, h1, h2, h3⟩ := h
  exact ⟨t, r, cs, by rw [A.off b (A.ne h1 (fun _ => nofun) fun _ _ => nofun)]; exact h1, by rw [A.off q (A.ne h2 (fun _ => nofun) fun _ _ => nofun)]; exact h2, h3⟩
end
section
variable {c : Ctx} {ρ : List SD} {n : Nat} {Ψ : Out} {ts : TS} {g : TG}
/-- a loop over a walk that stands here -/
theorem for_go {P : Hp} {L : List Addr} {σ : List (Option V)} {H : Hp} {Dn : Ends} {J : It} {ds : List D} (E : Env c P L n H σ ρ) (A : Acc c P Ψ Dn) (it : ItOk c J ds (hid (L ++ c.O) H)) (h : ∃ I : Nat → Nat → List SD → Prop, I 0 n ρ ∧
    (∀ k m ρ1 d, ds[k]? = some d → I k m ρ1 → WG c (fun _ _ => True) g d ρ1 m fun ρ2 => WS c ts ρ2 m { nx := I (k + 1), ct := I (k + 1), bk := Ψ.nx, rt := Ψ.rt }) ∧ (∀ m ρ1, I ds.length m ρ1 → Ψ.nx m ρ1)) : tFor (fun _ H R => R J H) g ts Dn σ H := by
  obtain ⟨I, h0, hs, hd⟩ := h
  have E1 := E.pers'
  have pp : Same P (hid (L ++ c.O) H) := E.pers
  have A' : Acc c (hid (L ++ c.O) H) Ψ Dn := { nx := fun L n H σ ρ E k => A.nx L n H σ ρ (E.persOf pp) k, rt := A.rt, bk := fun L n H σ ρ E k => A.bk L n H σ ρ (E.persOf pp) k, ct := fun L n H σ ρ E k => A.ct L n H σ ρ (E.persOf pp) k }
  refine ⟨fun i m σ H1 => m + i = ds.length ∧ ∃ L' n' ρ', Env c (hid (L ++ c.O) H) L' n' H1 σ ρ' ∧ I i n' ρ', ⟨ds.length, rfl, L, n, ρ, E1, h0⟩, ?_⟩
  rintro i m σ' H' ⟨hm, L', n', ρ', E', hI⟩
  by_cases hi : i < ds.length
  · right
    have hg : ds[i]? = some ds[i] := List.getElem?_eq_getElem hi
    obtain ⟨go, yl⟩ := it.go L' n' H' σ' ρ' E' i _ hg
    refine ⟨go, fun σ2 H2 => ∃ L2 n2 ρ2, Env c (hid (L ++ c.O) H) L2 n2 H2 σ2 ρ2 ∧ I (i + 1) n2 ρ2, ?_, ?_⟩
    · rintro σ2 H2 ⟨L2, n2, ρ2, E2, hI2⟩
      exact ⟨m - 1, by omega, by omega, L2, n2, ρ2, E2, hI2⟩
    · intro x H2 hy
      obtain ⟨sm, rx⟩ := yl x H2 hy
      have z := E'.same sm
      refine hs i n' ρ' _ hg hI _ L' σ' H2 x _ (E'.step z.1 z.2) rx fun σ3 ρ3 E3 _ k3 => ?_
      exact k3 _ L' σ3 H2 _ E3 { nx := fun L n H σ ρ E k => ⟨L, n, ρ, E, k⟩, rt := A.rt, bk := fun L n H σ ρ E k => A'.nx L n H σ ρ E k, ct := fun L n H σ ρ E k => ⟨L, n, ρ, E, k⟩ }
  · left
    have e : i = ds.length := by omega
    subst e
    exact ⟨it.stop L' n' H' σ' ρ' E' _ (Nat.le_refl _), A'.nx L' n' H' σ' ρ' E' (hd n' ρ' hI)⟩
def kD : L2.Key → D
  | .inl i => .int i
  | .inr x => .str x
theorem kD_rp {K : PySem.W.Frag} {H : Hp} : ∀ k : L2.Key, Rp K H (kV k) (kD k)
  | .inl i => .int i
  | .inr x => .str x
def keysD (kvs : List (L2.Key × D)) : List D := kvs.map fun kv => kD kv.1
theorem RpKs.keys {K : PySem.W.Frag} {H : Hp} : ∀ {xs : List (L2.Key × V)} {kvs : List (L2.Key × D)}, RpKs K H xs kvs → xs.map (·.1) = kvs.map (·.1)
  | _, _, .nil => rfl
  | _, _, .cons _ r => by rw [List.map_cons, List.map_cons, r.keys]
theorem it_k {d : Addr} {od : Obj} {xs : List (L2.Key × V)} {kvs : List (L2.Key × D)} {P : Hp} (hd : P d = some (.frz od (.dK xs))) (hr : RpKs c.K P xs kvs) : ItOk c (Itk d od xs) (keysD kvs) P where
  go := fun L n H σ ρ E i y hy => by
    unfold keysD at hy
    rw [List.getElem?_map] at hy
    have hp : H d = some (.frz od (.dK xs)) := (hid_some.mp (E.pers d _ hd)).2
    have hkk := hr.keys
    cases hk : kvs[i]? with
    | none => rw [hk] at hy; cases hy
    | some kv =>
      rw [hk] at hy
      have hl : i < xs.length := by rw [hr.length]; exact (List.getElem?_eq_some_iff.mp hk).1
      refine ⟨⟨hp, hl⟩, fun x H' ⟨e1, k, v, e2, e3⟩ => ?_⟩
      subst e1; subst e3
      have e4 : (xs.map (·.1))[i]? = some k := by rw [List.getElem?_map, e2]; rfl
      rw [hkk, List.getElem?_map, hk] at e4
      rw [← Option.some.inj hy, ← Option.some.inj e4]
      exact ⟨Same.refl _, kD_rp _⟩
  stop := fun L n H σ ρ E i hi => by
    unfold keysD at hi
    rw [List.length_map, ← hr.length] at hi
    exact ⟨(hid_some.mp (E.pers d _ hd)).2, hi⟩
/-- for k in d -/
theorem ws_forK {i : Nat} {kvs : List (L2.Key × D)} (h0 : ρ[i]? = some (.val (.dct kvs))) (h : ∀ H0', ∃ I : Nat → Nat → List SD → Prop, I 0 n ρ ∧
    (∀ k m ρ1 d, (keysD kvs)[k]? = some d → I k m ρ1 → WG { c with H0 := H0' } (fun _ _ => True) g d ρ1 m fun ρ2 => WS { c with H0 := H0' } ts ρ2 m { nx := I (k + 1), ct := I (k + 1), bk := Ψ.nx, rt := Ψ.rt }) ∧ (∀ m ρ1, I (keysD kvs).length m ρ1 → Ψ.nx m ρ1)) :
    WS c (tLockOr (tFor (iKeys (tVar i)) g ts)) ρ n Ψ := fun P L σ H Dn E A => by
  obtain ⟨Ls, sl, sb⟩ := E.slots
  obtain ⟨v, hv, rv⟩ := sl.get h0
  cases rv with
  | @dct d xs _ hd rk =>
    rcases hd with hd | ⟨od, hd⟩
    · -- not locked yet
      left
      have hdO : d ∉ L ++ c.O := (hid_some.mp hd).1
      have hdL : d ∉ L := fun q => hdO (List.mem_append_left _ q)
      have hdc : d ∉ c.O := fun q => hdO (List.mem_append_right _ q)
      have hH := (hid_some.mp hd).2
      refine ⟨d, .dK xs, hH, True.intro, fun od => ?_⟩
      have AG : Ag d xs H (upd H d (.frz od (.dK xs))) := ⟨fun a ha => upd_ne ha, .inl hH, .inr ⟨od, upd_same⟩⟩
      generalize hH1 : upd H d (.frz od (.dK xs)) = H1 at AG
      have hd1 : H1 d = some (.frz od (.dK xs)) := by rw [← hH1]; exact upd_same
      -- the context of the loop
      have E' : Env { c with H0 := hid L H1 } (hid (L ++ c.O) H1) L n H1 σ ρ :=
        { nd := E.nd, fresh := fun l hl => ⟨hid_in hl, (E.fresh l hl).2⟩,
          slots := ⟨Ls, sl.ag AG hdO fun q => hdL (sb.subset q), sb⟩,
          lst := fun l hl => by
            rw [AG.off l fun e => hdL (e ▸ hl)]; exact E.lst l hl,
          bag := fun b q hb => (E.bag b q hb).ag AG,
          base := fun a o e => by
            obtain ⟨e1, e2⟩ := hid_some.mp e
            exact hid_some.mpr ⟨e1, (hid_some.mp e2).2⟩,
          pers := Same.refl _, bO := E.bO,
          al := fun o ho => by rw [AG.off o fun e => hdc (e ▸ ho)]; exact E.al o ho }
      -- back to the old context
      have back : ∀ {L2 n2 H2 σ2 ρ2}, Env { c with H0 := hid L H1 } (hid (L ++ c.O) H1) L2 n2 H2 σ2 ρ2 → H2 d = some (.frz od (.dK xs)) ∧ Env c P L2 n2 (upd H2 d (.dK xs)) σ2 ρ2 := fun {L2 n2 H2 σ2 ρ2} E2 => by
        have hd2 : H2 d = some (.frz od (.dK xs)) := (hid_some.mp (E2.pers d _ (hid_some.mpr ⟨hdO, hd1⟩))).2
        have hdL2 : d ∉ L2 := fun q => by
          have := (E2.fresh d q).1
          have z : hid L H1 d = none := this
          rw [hid_out hdL, hd1] at z; cases z
        have hdO2 : d ∉ L2 ++ c.O := fun q => by
          rcases List.mem_append.mp q with q | q
          · exact hdL2 q
          · exact hdc q
        have AG2 : Ag d xs H2 (upd H2 d (.dK xs)) := ⟨fun a ha => upd_ne ha, .inr ⟨od, hd2⟩, .inl upd_same⟩
        have old : ∀ a o, a ∉ L → a ∉ c.B → H a = some o → upd H2 d (.dK xs) a = some o := fun a o ha hb ho => by
          by_cases e : a = d
          · subst e; rw [upd_same, ← ho, hH]
          · rw [upd_ne e]
            have : hid L H1 a = some o := by rw [hid_out ha, AG.off a e]; exact ho
            exact (hid_some.mp (E2.base a o (hid_some.mpr ⟨hb, this⟩))).2
        refine ⟨hd2, ?_⟩
        obtain ⟨Ls2, sl2, sb2⟩ := E2.slots
        exact { nd := E2.nd, fresh := fun l hl => ⟨(by
                  have h1 : hid L H1 l = none := (E2.fresh l hl).1
                  cases hz : c.H0 l with
                  | none => rfl
                  | some o =>
                    have hlL : l ∉ L := fun q => by rw [(E.fresh l q).1] at hz; cases hz
                    have hlB : l ∉ c.B := fun q => (E2.fresh l hl).2 (E.inO q)
                    have := (hid_some.mp (E.base l o (hid_some.mpr ⟨hlB, hz⟩))).2
                    rw [hid_out hlL] at h1
                    by_cases e : l = d
                    · subst e; rw [hd1] at h1; cases h1
                    · rw [AG.off l e, this] at h1; cases h1), (E2.fresh l hl).2⟩,
                slots := ⟨Ls2, sl2.ag AG2 hdO2 fun q => hdL2 (sb2.subset q), sb2⟩,
                lst := fun l hl => by rw [AG2.off l fun e => hdL2 (e ▸ hl)]; exact E2.lst l hl,
                bag := fun b q hb => (E2.bag b q hb).ag AG2,
                base := fun a o e => by
                  obtain ⟨e1, e2⟩ := hid_some.mp e
                  have haL : a ∉ L := fun q => by rw [(E.fresh a q).1] at e2; cases e2
                  exact hid_some.mpr ⟨e1, old a o haL e1 (hid_some.mp (E.base a o e)).2⟩,
                pers := fun a o e => by
                  obtain ⟨e1, e2⟩ := hid_some.mp (E.pers a o e)
                  have haL : a ∉ L := fun q => e1 (List.mem_append_left _ q)
                  have haO : a ∉ c.O := fun q => e1 (List.mem_append_right _ q)
                  refine hid_some.mpr ⟨fun q => ?_, old a o haL (fun q => haO (E.inO q)) e2⟩
                  rcases List.mem_append.mp q with q | q
                  · have h1 : hid L H1 a = none := (E2.fresh a q).1
                    rw [hid_out haL] at h1
                    by_cases e : a = d
                    · subst e; rw [hd1] at h1; cases h1
                    · rw [AG.off a e, e2] at h1; cases h1
                  · exact haO q,
                bO := E.bO,
                al := fun o ho => by rw [AG2.off o fun e => hdc (e ▸ ho)]; exact E2.al o ho }
      have hdB : d ∉ c.B := fun q => hdc (E.inO q)
      refine ⟨.ref d, hv, d, od, rfl, .inl ⟨xs, hd1, ?_⟩⟩
      refine for_go (c := { c with H0 := hid L H1 }) (Ψ := Ψ) (ds := keysD kvs) E' ?_ (it_k (hid_some.mpr ⟨hdO, hd1⟩) (rk.ag (AG.hid hdO))) (h _)
      refine' { nx := fun L2 n2 H2 σ2 ρ2 E2 k => ?nx, rt := fun v y n2 H2 s2 j2 r2 k => ?rt, bk := fun L2 n2 H2 σ2 ρ2 E2 k => ?bk, ct := fun L2 n2 H2 σ2 ρ2 E2 k => ?ct }
      case nx =>
        obtain ⟨b1, b2⟩ := back E2
        exact ⟨b1, A.nx _ _ _ _ _ b2 k⟩
      case bk =>
        obtain ⟨b1, b2⟩ := back E2
        exact ⟨b1, A.bk _ _ _ _ _ b2 k⟩
      case ct =>
        obtain ⟨b1, b2⟩ := back E2
        exact ⟨b1, A.ct _ _ _ _ _ b2 k⟩
      case rt =>
        have hd2 : H2 d = some (.frz od (.dK xs)) := (hid_some.mp (s2 d _ (hid_some.mpr ⟨hdB, by show hid L H1 d = _; rw [hid_out hdL]; exact hd1⟩))).2
        have AG2 : Ag d xs H2 (upd H2 d (.dK xs)) := ⟨fun a ha => upd_ne ha, .inr ⟨od, hd2⟩, .inl upd_same⟩
        refine ⟨hd2, A.rt v y n2 _ (fun a o e => ?_) (fun b q hb => (j2 b q hb).ag AG2) (r2.ag (AG2.hid hdc)) k⟩
        obtain ⟨e1, e2⟩ := hid_some.mp e
        have haL : a ∉ L := fun q => by rw [(E.fresh a q).1] at e2; cases e2
        have ho := (hid_some.mp (E.base a o e)).2
        refine hid_some.mpr ⟨e1, ?_⟩
        by_cases q : a = d
        · subst q; rw [upd_same, ← ho, hH]
        · rw [upd_ne q]
          have : hid L H1 a = some o := by rw [hid_out haL, AG.off a q]; exact ho
          exact (hid_some.mp (s2 a o (hid_some.mpr ⟨e1, this⟩))).2
    · right
      refine ⟨.ref d, hv, d, od, rfl, .inl ⟨xs, (hid_some.mp hd).2, ?_⟩⟩
      exact for_go (c := c) (Ψ := Ψ) (ds := keysD kvs) E.pers' { nx := fun L n H σ ρ E2 k => A.nx L n H σ ρ (E2.persOf E.pers) k, rt := A.rt, bk := fun L n H σ ρ E2 k => A.bk L n H σ ρ (E2.persOf E.pers) k, ct := fun L n H σ ρ E2 k => A.ct L n H σ ρ (E2.persOf E.pers) k } (it_k hd rk) (h c.H0)
end
/-! ### list(d), len(d), isinstance(d, dict), == -/
def rListK (K : PySem.W.Frag) : List V → Hp → VK → Prop := fun vs H Q => ∃ (O : List Addr) (v : V) (kvs : List (L2.Key × D)), vs = [v] ∧ Rp K (hid O H) v (.dct kvs) ∧ ∀ p ys, H p = none → RpAll K (hid O H) ys (keysD kvs) → Q (.ref p) (upd H p (.lst ys))
theorem keysD_rp {K : PySem.W.Frag} {H H' : Hp} : ∀ {xs : List (L2.Key × V)} {kvs : List (L2.Key × D)}, RpKs K H xs kvs → RpAll K H' (xs.map fun kv => kV kv.1) (keysD kvs)
  | _, _, .nil => .nil
  | _, _, .cons _ r => .cons (kD_rp _) (keysD_rp r)
theorem x_listK {X : Cx} (K : PySem.W.Frag) (hc : X.calm = true := by rfl) (hK : X.K = K := by rfl) : CallR X (.type "list") (rListK K) := by
  subst hK
  intro pins s σ H xs us Q I r h
  obtain ⟨O, v, kvs0, e, hx, q⟩ := h
  subst e
  cases hx with
  | @dct p kvs _ hs rk0 =>
    obtain ⟨u, eu, rx⟩ := L2.vals1 r
    subst eu
    obtain rfl : u = Value.ref p := rx
    obtain ⟨z, lo, vs, rk, hd⟩ := (same_rd same_hid hs).ok I.hok
    obtain ⟨ep, hat⟩ := hd.dictAt
    have hl : kvs.length = vs.length := Paired.length rk
    refine PySem.W.kdl_call (PySem.W.kdl_dict (knd := mixKind X.prog X.w) (kvs := vs) (ep := ep) lo) (I.ok.hd hc) hat (by rw [← hl]; exact z) fun h' tk acc' c' hkeep hS hacc => ?_
    refine ⟨.ref s.heap.objs.size, upd H s.heap.objs.size (.lst (kvs.map fun kv => kV kv.1)), I.laid hkeep (Nat.le_refl _) (show ObjOk X.prog X.w _ _ _ (.lst (kvs.map fun kv => kV kv.1)) from ⟨?_, acc'.toList, c', ?_, ?_⟩), rfl, q _ _ (I.hok.fresh (Nat.le_refl _)) (keysD_rp rk0)⟩
    · rw [List.length_map]; exact z
    · have el : acc'.toList.length = acc'.size := by simp
      refine L2.vals_of_at (by rw [List.length_map, el, hacc.1, hl]) fun j x w h1 h2 => ?_
      obtain ⟨k, y, hky, hi⟩ := hacc.2 j w (by rw [← Array.getElem?_toList]; exact h2)
      have e1 : (kvs.map (·.1))[j]? = some k := by
        rw [KV.keys rk, List.getElem?_map, hky] <;> rfl
      have e2 : (kvs.map fun kv => kV kv.1)[j]? = some (kV k) := by
        have e3 : (kvs.map fun kv => kV kv.1) = (kvs.map (·.1)).map kV := by rw [List.map_map] <;> rfl
        rw [e3, List.getElem?_map, e1] <;> rfl
      rw [e2] at h1
      cases h1
      exact keyIs_rel hi
    · rw [Array.toArray_toList]; exact hS
theorem rc_listK {K : PySem.W.Frag} {Φ : D → Prop} {kvs : List (L2.Key × D)} (k : Φ (.lst (keysD kvs))) : RCD K (rListK K) [.dct kvs] Φ := fun O H xs Q rs no q => by
  obtain ⟨v, rfl, r⟩ := rs.one
  exact ⟨O, v, kvs, rfl, r, fun p ys hp ry => q _ _ _ (same_upd_new hp) (.lst (.inl (hid_at (no p hp))) (ry.mono (rp_upd (K := K) hp))) k⟩
def rLenK (K : PySem.W.Frag) : List V → Hp → VK → Prop := fun vs H Q => ∃ (O : List Addr) (v : V) (kvs : List (L2.Key × D)), vs = [v] ∧ Rp K (hid O H) v (.dct kvs) ∧ Q (.int kvs.length) H
theorem x_lenK {X : Cx} (K : PySem.W.Frag) (hK : X.K = K := by rfl) : CallR X (.builtin "len") (rLenK K) := by
  subst hK
  intro pins s σ H xs us Q I r h
  obtain ⟨O, v, kvs, e, hx, q⟩ := h
  subst e
  cases hx with
  | @dct p ys _ hs rk =>
    obtain ⟨u, eu, rx⟩ := L2.vals1 r
    subst eu
    obtain rfl : u = Value.ref p := rx
    refine d_len I (same_rd same_hid hs) fun t s' I' => ⟨.int kvs.length, H, I', ⟨t, by rw [rk.length]⟩, q⟩
theorem rc_lenK {K : PySem.W.Frag} {Φ : D → Prop} {kvs : List (L2.Key × D)} (k : Φ (.int kvs.length)) : RCD K (rLenK K) [.dct kvs] Φ := fun O H xs Q rs no q => by
  obtain ⟨v, rfl, r⟩ := rs.one
  exact ⟨O, v, kvs, rfl, r, q _ _ H (Same.refl _) (.int _) k⟩
theorem rc_isiK {K : PySem.W.Frag} {Φ : D → Prop} {kvs : List (L2.Key × D)} {U : String} {b : Bool} (hk : kitB "dict" U = some b) (k : Φ (.bl b)) : RCD K (rIsi K) [.dct kvs, .ty U] Φ := fun O H xs Q rs no q => by
  obtain ⟨v, u, rfl, r1, r2⟩ := rs.two
  cases r2
  cases r1 with
  | @dct p ys _ hs rk =>
    have ty : TyX K H (.ref p) (.type "dict") := by
      rcases same_rd same_hid hs with e | ⟨o, e⟩
      · exact .base (.dK e)
      · exact .fDict e
    exact ⟨_, .ty U, .type "dict", .type U, b, rfl, .ty U, ty, kit_ty hk, q _ _ H (Same.refl _) (.bl _) k⟩
theorem x_eqK {X : Cx} (K : PySem.W.Frag) (hu : X.A.units + 65 < cLine) (hK : X.K = K := by rfl) : OpR X (compareOp .Eq) (rEqK K false) := by
  subst hK
  intro pins s σ H x y v u Q I rx ry h
  obtain ⟨O, kvs, lvs, hx, hy, hl, hh, q⟩ := h
  cases hx with
  | @dct a ks _ ha ra =>
    cases hy with
    | @dct b ls _ hb rb =>
      cases rx
      cases ry
      obtain ⟨_, ya, va, va', da⟩ := (same_rd same_hid ha).ok I.hok
      obtain ⟨_, yb, vb, vb', db⟩ := (same_rd same_hid hb).ok I.hok
      refine PySem.W.keq_eq (knd := mixKind X.prog X.w) (r := true) ya yb da db (by omega) (fun _ => hitsD (A := X.A) I (by show X.A.units + 1 + 64 < cLine; omega) rb vb' ra va' hh) ?_
      have e : va.length = vb.length := by rw [← va'.length, ← vb'.length, ra.length, rb.length]; exact hl
      rw [show (va.length == vb.length && true) = true from by rw [e]; simp]
      exact ⟨.bl true, H, I, rfl, q⟩
end L3
/-! L3x: comprehensions over a dict whose keys are nested tuples. -/
namespace L3
open PySem L2
/-- the keys of the locked dict at d -/
def ItN (pr : Program) (wd : World) (d : Addr) (o : Obj) (xs : List (NestedKey × Addr × Value)) : It :=
  ⟨fun i H => H d = some (.frz o (.ext (DictBare pr wd xs d))) ∧ i < xs.length, fun i H x H' => H' = H ∧ ∃ y, xs[i]? = some y ∧ x = .ref y.2.1, fun i H => H d = some (.frz o (.ext (DictBare pr wd xs d))) ∧ xs.length ≤ i⟩
theorem frzN {X : Cx} {pins : List (Addr × Obj)} {σ : L2.St} {H : Hp} {s : Shared} {pr : Program} {wd : World} {d : Addr} {o : Obj} {xs : List (NestedKey × Addr × Value)} (I : Inv X pins σ H s) (h : H d = some (.frz o (.ext (DictBare pr wd xs d)))) :
    s.heap.get? d = some o ∧ o.ExactDict ∧ ∃ (es : Array DictEntry) (ep : Nat), o.data = .dict es ep ∧ es.size = xs.length ∧ ∀ (i : Nat) y, xs[i]? = some y → ∃ en, es[i]? = some en ∧ en.key = .ref y.2.1 := by
  obtain ⟨hd, ⟨o', es, ep, e1, e2, e3, e4, e5⟩, _⟩ := I.hok d _ h
  rw [hd] at e1
  cases e1
  refine ⟨hd, e2, es, ep, e3, by rw [← Array.length_toList, e4, List.length_map], fun i y hy => ?_⟩
  refine ⟨entryOfKey (nestedKind pr wd) y, ?_, rfl⟩
  rw [← Array.getElem?_toList, e4, List.getElem?_map, hy]
  rfl
theorem turn_keysN {P : Program} {w : World} {K : PySem.W.Frag} {tg : Expr} {d : Addr} {o : Obj} {es : Array DictEntry} {ep : Nat} {pr : Program} {wd : World} {xs : List (NestedKey × Addr × Value)} (it : Addr) (hod : o.data = .dict es ep) : Turn P w K tg (ItN pr wd d o xs) [it] it (fun i h => h.IsKeyIter it d i xs.length ep) where
  mem := by simp
  obj := fun i h st b hb => by
    have e : b = it := by simpa using hb
    subst e
    obtain ⟨oi, e, c, dd⟩ := st
    exact ⟨oi, e, fun v z => by rw [dd] at z; cases z⟩
  keep := fun i h h' st k => st.at fun oi e => k it (by simp) oi e
  item := by
    intro X hP hw hK hc i pins s σ H E I hf st hg
    subst hP hw hK
    obtain ⟨hd, hi⟩ := hg
    obtain ⟨f0, f1, f2, f3, f4, f5⟩ := hf it (by simp)
    obtain ⟨hgd, hx, es', ep', hdt, hsz, ent⟩ := frzN I hd
    obtain ⟨rfl, rfl⟩ := dict_ep hod hdt
    obtain ⟨y, hy⟩ : ∃ p, xs[i]? = some p := ⟨xs[i], List.getElem?_eq_getElem hi⟩
    obtain ⟨en, hen, hkey⟩ := ent i y hy
    refine next_key_item st hgd hdt hsz hen fun h' st' sb => ?_
    have I1 : Inv X pins σ H { s with heap := h' } := I.turned (t' := s.toks) (fun b ob hb e => (sb.2 b hb).trans e) f0 f1 f3 f4 f5
    obtain ⟨oi, e, c, dd⟩ := id st'
    exact ⟨en.key, rfl, go_of (s := { s with heap := h' }) e c dd (by decide) ⟨.ref y.2.1, H, I1, hkey, ⟨rfl, y, hy, rfl⟩, st', fun b hb => (hf b hb).1⟩⟩
  done := by
    intro X hP hw hK hc i pins s σ H E I hf st hg
    subst hP hw hK
    obtain ⟨hd, hi⟩ := hg
    obtain ⟨f0, f1, f2, f3, f4, f5⟩ := hf it (by simp)
    obtain ⟨hgd, hx, es', ep', hdt, hsz, ent⟩ := frzN I hd
    obtain ⟨rfl, rfl⟩ := dict_ep hod hdt
    exact next_key_end (I.ok.hd hc) st hgd hdt hsz hi fun h' eb => ⟨rfl, I.turned (t' := s.toks) (fun b ob hb e => eb b ob hb e) f0 f1 f3 f4 f5⟩
  self := fun A i s Q E st h => by
    refine wpAny_pyIter_slot st.typeIs F.slot_dict_keyiterator_iter (wpAny_call_entry F.slot_dict_keyiterator_iter st.typeIs F.entry_dict_keyiterator_iter ?_ (F.args_dict_keyiterator_iter_1 _))
    show wpAny _ _ (ret (.ref it)) _ _ s
    exact wpAny_pure ⟨_, rfl, "dict_keyiterator", _, st.typeIs, F.slot_dict_keyiterator_next.lookup, h⟩
def iKeysN (pr : Program) (wd : World) (td : TE) : TI := fun σ H R => td σ H fun x H1 => ∃ d o xs, x = .ref d ∧ (d == sysModules) = false ∧ H1 d = some (.frz o (.ext (DictBare pr wd xs d))) ∧ R (ItN pr wd d o xs) H1
theorem pi_keysN {X : Cx} {tg e : Expr} {td : TE} (pr : Program) (wd : World) (he : PE X e td) : PI X tg e (iKeysN pr wd td) := by
  refine ⟨fun pins s σ H R I h => ?_⟩
  refine thn (he.run pins s σ H _ I h) fun u s1 ⟨x, H1, I1, rx, d, o, xs, ex, hs, hd, q⟩ => ?_
  subst ex
  obtain rfl : u = Value.ref d := rx
  obtain ⟨hgd, hx, es, ep, hdt, hsz, ent⟩ := frzN I1 hd
  refine iter_keys hs hgd hx hdt (pi_one (tk := s1.toks) I1 _ (turn_keysN _ hdt) ⟨_, Heap.get?_push_size _ rfl, rfl, ?_⟩ q)
  rw [hsz] <;> rfl
def tLockEOr (t : TE) : TE := fun σ H Q => tLockE t σ H Q ∨ t σ H Q
theorem pe_lockOr {X : Cx} {e : Expr} {t : TE} (h : PE X e t) : PE X e (tLockEOr t) := by
  refine ⟨fun pins s σ H Q I hw => ?_⟩
  rcases hw with hw | hw
  · exact (pe_lock h).run pins s σ H Q I hw
  · exact h.run pins s σ H Q I hw
/-! ### two heaps that agree but for the lock of one such dict -/
def NC (φ : Heap → Prop) (o : Option HO) : Prop := o = some (.ext φ) ∨ ∃ od, o = some (.frz od (.ext φ))
structure AgN (d : Addr) (φ : Heap → Prop) (H H' : Hp) : Prop where
  off : ∀ a, a ≠ d → H' a = H a
  a1 : NC φ (H d)
  a2 : NC φ (H' d)
section
variable {d : Addr} {φ : Heap → Prop} {H H' : Hp}
theorem AgN.symm (A : AgN d φ H H') : AgN d φ H' H := ⟨fun a h => (A.off a h).symm, A.a2, A.a1⟩
theorem AgN.hid {O : List Addr} (A : AgN d φ H H') (h : d ∉ O) : AgN d φ (hid O H) (hid O H') := ⟨fun a ha => by
  unfold L3.hid
  by_cases q : a ∈ O
  · rw [if_pos q, if_pos q]
  · rw [if_neg q, if_neg q]; exact A.off a ha, by rw [hid_out h]; exact A.a1, by rw [hid_out h]; exact A.a2⟩
theorem AgN.lst (A : AgN d φ H H') {a : Addr} {ys : List V} (h : Rd H a (.lst ys)) : Rd H' a (.lst ys) := by
  have ne : a ≠ d := fun e => by
    subst e
    rcases h with h | ⟨o, h⟩ <;> rcases A.a1 with q | ⟨od, q⟩ <;> (rw [h] at q; cases q)
  unfold Rd
  rw [A.off a ne]; exact h
theorem AgN.tup (A : AgN d φ H H') {a : Addr} {ys : List V} (h : Rd H a (.tup ys)) : Rd H' a (.tup ys) := by
  have ne : a ≠ d := fun e => by
    subst e
    rcases h with h | ⟨o, h⟩ <;> rcases A.a1 with q | ⟨od, q⟩ <;> (rw [h] at q; cases q)
  unfold Rd
  rw [A.off a ne]; exact h
theorem AgN.sqt (A : AgN d φ H H') {K : PySem.W.Frag} {a : Addr} {ys : List V} (h : SqT K H a ys) : SqT K H' a ys := by
  rcases h with h | h
  · exact .inl (A.tup h)
  · exact .inr h
theorem AgN.dK (A : AgN d φ H H') {a : Addr} {ys : List (L2.Key × V)} (h : Rd H a (.dK ys)) : Rd H' a (.dK ys) := by
  have ne : a ≠ d := fun e => by
    subst e
    rcases h with h | ⟨o, h⟩ <;> rcases A.a1 with q | ⟨od, q⟩ <;> (rw [h] at q; cases q)
  unfold Rd
  rw [A.off a ne]; exact h
theorem AgN.ne {a : Addr} {o : HO} (A : AgN d φ H H') (h : H a = some o) (n1 : ∀ ys, o ≠ .ext ys) (n2 : ∀ od u, o ≠ .frz od u) : a ≠ d := fun e => by
  subst e
  rcases A.a1 with q | ⟨od, q⟩
  · rw [h] at q; exact n1 _ (Option.some.inj q)
  · rw [h] at q; exact n2 _ _ (Option.some.inj q)
theorem AgN.ins (A : AgN d φ H H') {a C dx : Addr} {fs : List (Str × V)} (h : H a = some (.ins C dx fs)) : H' a = some (.ins C dx fs) := by
  rw [A.off a (A.ne h (fun _ => nofun) fun _ _ => nofun)]; exact h
theorem AgN.rext (A : AgN d φ H H') {a : Addr} {ψ : Heap → Prop} (h : Rd H a (.ext ψ)) : Rd H' a (.ext ψ) := by
  by_cases e : a = d
  · subst e
    have ey : ψ = φ := by rcases h with h | ⟨o, h⟩ <;> rcases A.a1 with q | ⟨od, q⟩ <;> (rw [h] at q; cases q; try rfl)
    subst ey
    rcases A.a2 with q | ⟨od, q⟩
    · exact .inl q
    · exact .inr ⟨od, q⟩
  · unfold Rd
    rw [A.off a e]; exact h
mutual
theorem Rp.agN {K : PySem.W.Frag} {d : Addr} {φ : Heap → Prop} {H H' : Hp} (A : AgN d φ H H') : ∀ {v : V} {x : D}, Rp K H v x → Rp K H' v x
  | _, _, .non => .non
  | _, _, .bl b => .bl b
  | _, _, .int i => .int i
  | _, _, .str x => .str x
  | _, _, .lst h r => .lst (A.lst h) (RpAll.agN A r)
  | _, _, .tup h r => .tup (A.sqt h) (RpAll.agN A r)
  | _, _, .obj h r => .obj (A.ins h) (RpFs.agN A r)
  | _, _, .adr a => .adr a
  | _, _, .ty n => .ty n
  | _, _, .er h1 h2 r => .er (A.rext h1) (A.rext h2) (RpFs.agN A r)
  | _, _, .dct h r => .dct (A.dK h) (RpKs.agN A r)
  | _, _, .dcn h s r => .dcn (A.rext h) s (RpNs.agN A r)
theorem RpAll.agN {K : PySem.W.Frag} {d : Addr} {φ : Heap → Prop} {H H' : Hp} (A : AgN d φ H H') : ∀ {vs : List V} {ds : List D}, RpAll K H vs ds → RpAll K H' vs ds
  | _, _, .nil => .nil
  | _, _, .cons h r => .cons (Rp.agN A h) (RpAll.agN A r)
theorem RpFs.agN {K : PySem.W.Frag} {d : Addr} {φ : Heap → Prop} {H H' : Hp} (A : AgN d φ H H') : ∀ {vs : List (Str × V)} {ds : List (Str × D)}, RpFs K H vs ds → RpFs K H' vs ds
  | _, _, .nil => .nil
  | _, _, .cons h r => .cons (Rp.agN A h) (RpFs.agN A r)
theorem RpKs.agN {K : PySem.W.Frag} {d : Addr} {φ : Heap → Prop} {H H' : Hp} (A : AgN d φ H H') : ∀ {vs : List (L2.Key × V)} {ds : List (L2.Key × D)}, RpKs K H vs ds → RpKs K H' vs ds
  | _, _, .nil => .nil
  | _, _, .cons h r => .cons (Rp.agN A h) (RpKs.agN A r)
theorem RpNs.agN {K : PySem.W.Frag} {d : Addr} {φ : Heap → Prop} {H H' : Hp} (A : AgN d φ H H') : ∀ {vs : List (NestedKey × Addr × Value)} {ds : List (D × D)}, RpNs K H vs ds → RpNs K H' vs ds
  | _, _, .nil => .nil
  | _, _, .cons a b h w v r => .cons a b (Rp.agN A h) w (Rp.agN A v) (RpNs.agN A r)
end
theorem NDict.agN {pr : Program} {wd : World} {K : PySem.W.Frag} {O : List Addr} {l : Addr} {kvs : List (D × D)} (A : AgN d φ H H') (hd : d ∉ O) (ne : l ≠ d) (h : NDict pr wd K O H l kvs) : NDict pr wd K O H' l kvs := by
  obtain ⟨ys, h1, h2, h3⟩ := h
  exact ⟨ys, (A.off l ne).trans h1, h2, ((RpNs.of h3).agN (A.hid hd)).pair⟩
theorem Slots.agN {pr : Program} {wd : World} {K : PySem.W.Frag} {O : List Addr} (A : AgN d φ H H') (hd : d ∉ O) : ∀ {σ : List (Option V)} {ρ : List SD} {L : List Addr}, Slots pr wd K O H σ ρ L → d ∉ L → Slots pr wd K O H' σ ρ L
  | _, _, _, .nil, _ => .nil
  | _, _, _, .un s, n => .un (Slots.agN A hd s n)
  | _, _, _, .val h s, n => .val (h.agN (A.hid hd)) (Slots.agN A hd s n)
  | _, _, _, .own (l := l) h r s, n => .own (by rw [A.off l fun e => n (e ▸ List.mem_cons_self)]; exact h) (r.agN (A.hid hd)) (Slots.agN A hd s fun q => n (List.mem_cons_of_mem _ q))
  | _, _, _, .dic (l := l) h s, n => .dic (h.agN A hd fun e => n (e ▸ List.mem_cons_self)) (Slots.agN A hd s fun q => n (List.mem_cons_of_mem _ q))
  | _, _, _, .dk (l := l) ⟨ys, h, r⟩ s, n => .dk ⟨ys, by rw [A.off l fun e => n (e ▸ List.mem_cons_self)]; exact h, r.agN (A.hid hd)⟩ (Slots.agN A hd s fun q => n (List.mem_cons_of_mem _ q))
  | _, _, _, .tw (l := l) ⟨vs, h, r, q⟩ s, n => .tw ⟨vs, (A.hid hd).sqt h, r.agN (A.hid hd), q.agN A hd fun e => n (e ▸ List.mem_cons_self)⟩ (Slots.agN A hd s fun q => n (List.mem_cons_of_mem _ q))
  | _, _, _, .ot h q s, n => .ot (OT.mv _ h (fun l hl => A.off l fun e => n (by rw [q, ← e]; exact List.mem_append_left _ hl)) fun _ _ r => r.agN (A.hid hd)) q (Slots.agN A hd s fun z => n (by rw [q]; exact List.mem_append_right _ z))
theorem BagOk.agN {b q : Addr} {n : Nat} (A : AgN d φ H H') (h : BagOk b q n H) : BagOk b q n H' := by
  obtain ⟨t, r, cs, h1, h2, h3⟩ := h
  exact ⟨t, r, cs, by rw [A.off b (A.ne h1 (fun _ => nofun) fun _ _ => nofun)]; exact h1, by rw [A.off q (A.ne h2 (fun _ => nofun) fun _ _ => nofun)]; exact h2, h3⟩
end
section
variable {c : Ctx} {ρ : List SD} {n : Nat} {g : TG} {te : TE} {t : TT} {vs : List Nat}
def keysN (kvs : List (D × D)) : List D := kvs.map (·.1)
theorem RpNs.len {K : PySem.W.Frag} {H : Hp} : ∀ {xs : List (NestedKey × Addr × Value)} {kvs : List (D × D)}, RpNs K H xs kvs → xs.length = kvs.length
  | _, _, .nil => rfl
  | _, _, .cons _ _ _ _ _ r => by rw [List.length_cons, List.length_cons, r.len]
theorem RpNs.key {K : PySem.W.Frag} {H : Hp} : ∀ {xs : List (NestedKey × Addr × Value)} {kvs : List (D × D)} {i : Nat} {kv : D × D}, RpNs K H xs kvs → kvs[i]? = some kv → ∃ y, xs[i]? = some y ∧ Rp K H (.ref y.2.1) kv.1
  | _, _, _, _, .nil, e => by simp at e
  | _, _, 0, _, .cons _ _ h _ _ _, e => by simp at e; subst e; exact ⟨_, rfl, h⟩
  | _, _, i + 1, _, .cons _ _ _ _ _ r, e => by
    obtain ⟨y, h1, h2⟩ := RpNs.key (i := i) r (by simpa using e)
    exact ⟨y, by simpa using h1, h2⟩
theorem it_n {pr : Program} {wd : World} {d : Addr} {od : Obj} {xs : List (NestedKey × Addr × Value)} {kvs : List (D × D)} {P : Hp} (hd : P d = some (.frz od (.ext (DictBare pr wd xs d)))) (hr : RpNs c.K P xs kvs) : ItOk c (ItN pr wd d od xs) (keysN kvs) P where
  go := fun L n H σ ρ E i y hy => by
    unfold keysN at hy
    rw [List.getElem?_map] at hy
    have hp : H d = some (.frz od (.ext (DictBare pr wd xs d))) := (hid_some.mp (E.pers d _ hd)).2
    cases hk : kvs[i]? with
    | none => rw [hk] at hy; cases hy
    | some kv =>
      rw [hk] at hy
      cases hy
      have hl : i < xs.length := by rw [hr.len]; exact (List.getElem?_eq_some_iff.mp hk).1
      refine ⟨⟨hp, hl⟩, fun x H' ⟨e1, y, e2, e3⟩ => ?_⟩
      subst e1; subst e3
      obtain ⟨y', g1, g2⟩ := hr.key hk
      rw [g1] at e2
      cases e2
      exact ⟨Same.refl _, g2.mono E.pers⟩
  stop := fun L n H σ ρ E i hi => by
    unfold keysN at hi
    rw [List.length_map, ← hr.len] at hi
    exact ⟨(hid_some.mp (E.pers d _ hd)).2, hi⟩
/-- the comprehension's part -/
def LcN (c : Ctx) (g : TG) (t : TT) (te : TE) (vs : List Nat) (ρ : List SD) (n : Nat) (ds : List D) (Φ : Nat → List D → Prop) : Prop := ∃ I : Nat → Nat → List D → Prop, I 0 n [] ∧
    (∀ k m acc d, ds[k]? = some d → I k m acc → WG c (RW vs) g d (wipeR ρ vs) m fun ρ2 => WT c t ρ2 m fun m2 b => if b = true then WE c te ρ2 m2 fun m3 y => acc.length < sizeLine ∧ I (k + 1) m3 (acc ++ [y]) else I (k + 1) m2 acc) ∧
    (∀ m acc, I ds.length m acc → Φ m acc)
/-- a comprehension over a walk that stands here -/
theorem lc_go {Φ : Nat → List D → Prop} {ds : List D} {P : Hp} {L : List Addr} {σ : List (Option V)} {H : Hp} {Q : VK} {J : It} (E : Env c P L n H σ ρ) (it : ItOk c J ds (hid (L ++ c.O) H)) (h : LcN c g t te vs ρ n ds Φ)
    (q : ∀ p xs ds n' H', Same (hid c.B H) (hid c.B H') → H p = none → H' p = some (.lst xs) → RpAll c.K (hid (p :: (L ++ c.O)) H') xs ds → c.J n' H' → Φ n' ds → Q (.ref p) H') : tLc (fun _ H R => R J H) g t te vs σ H Q := by
  obtain ⟨I, h0, hs, hd⟩ := h
  intro D hD
  have E1 := E.pers'
  obtain ⟨Ls, sl, sb⟩ := E1.slots
  obtain ⟨Lw, slw, sbw⟩ := sl.wipe vs
  have Ew : Env c (hid (L ++ c.O) H) L n H (wipe σ vs) (wipeR ρ vs) := E1.reslot slw (sbw.trans sb)
  have E2 := Ew.newOwn (xs := []) hD
  have DnL : D ∉ L := (E1.new hD).2.2
  -- the loop's invariant
  refine ⟨fun i m H' => m + i = ds.length ∧ ∃ n' xs acc, Env c (hid (L ++ c.O) H) (D :: L) n' H' (wipe σ vs) (wipeR ρ vs) ∧ H' D = some (.lst xs) ∧ RpAll c.K (hid ((D :: L) ++ c.O) H') xs acc ∧ Same (hid c.B H) (hid c.B H') ∧ I i n' acc, ⟨ds.length, rfl, n, [], [], E2, upd_same, .nil, (E1.newT hD).1, h0⟩, ?_⟩
  rintro i m H' ⟨hm, n', xs, acc, E', hDx, hacc, sB, hI⟩
  by_cases hi : i < ds.length
  · right
    have hg : ds[i]? = some ds[i] := List.getElem?_eq_getElem hi
    obtain ⟨go, yl⟩ := it.go (D :: L) n' H' _ _ E' i _ hg
    refine ⟨go, fun H2 => ∃ n' xs acc, Env c (hid (L ++ c.O) H) (D :: L) n' H2 (wipe σ vs) (wipeR ρ vs) ∧ H2 D = some (.lst xs) ∧ RpAll c.K (hid ((D :: L) ++ c.O) H2) xs acc ∧ Same (hid c.B H) (hid c.B H2) ∧ I (i + 1) n' acc, ?_, ?_⟩
    · rintro H2 ⟨n2, xs2, acc2, a1, a2, a3, a4, a5⟩
      exact ⟨m - 1, by omega, by omega, n2, xs2, acc2, a1, a2, a3, a4, a5⟩
    · intro x H2 hy
      obtain ⟨sm, rx⟩ := yl x H2 hy
      have z := E'.same sm
      have E2' := E'.step z.1 z.2
      refine hs i n' acc _ hg hI _ (D :: L) _ H2 x _ E2' rx fun σ3 ρ3 E3 hw k3 => ?_
      refine ⟨hw.trans (wipe_idem σ vs), ?_⟩
      refine k3 _ (D :: L) σ3 H2 _ E3 fun b n4 H4 s4 j4 k4 => ?_
      have back : ∀ {H5 : Hp} {n5 : Nat}, Same (hid c.B H2) (hid c.B H5) → c.J n5 H5 → Env c (hid (L ++ c.O) H) (D :: L) n5 H5 (wipe σ vs) (wipeR ρ vs) := fun s5 j5 => E2'.step s5 j5
      have own : ∀ {H5 : Hp}, Same (hid c.B H2) (hid c.B H5) → H5 D = some (.lst xs) := fun s5 => by
        rw [E2'.own s5 D List.mem_cons_self]
        exact sm D _ hDx
      have accs : ∀ {H5 : Hp}, Same (hid c.B H2) (hid c.B H5) → RpAll c.K (hid ((D :: L) ++ c.O) H5) xs acc := fun s5 => (hacc.mono (same_hid_of sm)).mono (E2'.sameLO s5)
      cases b with
      | false =>
        rw [if_neg Bool.false_ne_true] at k4 ⊢
        exact ⟨n4, xs, acc, back s4 j4, own s4, accs s4, (sB.trans z.1).trans s4, k4⟩
      | true =>
        rw [if_pos rfl] at k4 ⊢
        refine k4 _ (D :: L) σ3 H4 _ (E3.step s4 j4) fun y d n5 H5 s5 j5 r5 ⟨hz, k5⟩ => ?_
        have s45 := s4.trans s5
        refine ⟨xs, own s45, by rw [hacc.length]; exact hz, n5, xs ++ [y], acc ++ [d], ?_, upd_same, ?_, ?_, k5⟩
        · have Eb := back s45 j5
          obtain ⟨Ls5, sl5, sb5⟩ := Eb.slots
          have e5 := sl5.inj slw
          subst e5
          exact Eb.grow List.mem_cons_self sl5 sb5 fun q => DnL ((sbw.trans sb).subset q)
        · have hm : D ∈ (D :: L) ++ c.O := List.mem_append_left _ List.mem_cons_self
          rw [hid_upd_in hm]
          exact (accs s45).append (.cons r5 .nil)
        · exact same_upd_old hD ((sB.trans z.1).trans s45)
  · left
    have e : i = ds.length := by omega
    subst e
    refine ⟨it.stop (D :: L) n' H' _ _ E' _ (Nat.le_refl _), ?_⟩
    exact q D xs acc n' H' sB hD hDx hacc E'.bag (hd n' acc hI)

/-- [.. for .. in w[0]] -/
theorem wf_lcN {i : Nat} {kvs : List (D × D)} {ds : List D} {Φ : Nat → List D → Prop} (h0 : ρ[i]? = some (.val (.tup (.dcn c.pr c.wd kvs :: ds)))) (h : ∀ H0', LcN { c with H0 := H0' } g t te vs ρ n (keysN kvs) Φ) :
    WF c (tLockEOr (tLc (iKeysN c.pr c.wd (tOp (rIx c.K) (tVar i) (tC (.int 0)))) g t te vs)) ρ n Φ := fun P L σ H Q E q => by
  obtain ⟨Ls, sl, sb⟩ := E.slots
  obtain ⟨v, hv, rv⟩ := sl.get h0
  cases rv with
  | @tup a ws _ hsq rws =>
    cases rws with
    | @cons _ vs' _ _ r1 rr =>
      cases r1 with
      | @dcn d _ _ xs _ hd hsys rk =>
        have hix : ∀ (H2 : Hp) (R : V → Hp → Prop), SqT c.K H2 a (.ref d :: vs') → R (.ref d) H2 → tOp (rIx c.K) (tVar i) (tC (.int 0)) σ H2 R := fun H2 R h1 h2 => ⟨.ref a, hv, .inr (.inl ⟨a, _, 0, .ref d, rfl, rfl, h1, atI_nat (xs := V.ref d :: vs') (j := 0) rfl, h2⟩)⟩
        rcases hd with hd | ⟨od, hd⟩
        · -- not locked yet
          left
          have hdO : d ∉ L ++ c.O := (hid_some.mp hd).1
          have hdL : d ∉ L := fun q => hdO (List.mem_append_left _ q)
          have hdc : d ∉ c.O := fun q => hdO (List.mem_append_right _ q)
          have hH := (hid_some.mp hd).2
          refine ⟨d, .ext (DictBare c.pr c.wd xs d), hH, True.intro, fun od => ?_⟩
          have AG : AgN d (DictBare c.pr c.wd xs d) H (upd H d (.frz od (.ext (DictBare c.pr c.wd xs d)))) := ⟨fun a ha => upd_ne ha, .inl hH, .inr ⟨od, upd_same⟩⟩
          generalize hH1 : upd H d (.frz od (.ext (DictBare c.pr c.wd xs d))) = H1 at AG
          have hd1 : H1 d = some (.frz od (.ext (DictBare c.pr c.wd xs d))) := by rw [← hH1]; exact upd_same
          have E' : Env { c with H0 := hid L H1 } (hid (L ++ c.O) H1) L n H1 σ ρ :=
            { nd := E.nd, fresh := fun l hl => ⟨hid_in hl, (E.fresh l hl).2⟩,
              slots := ⟨Ls, sl.agN AG hdO fun q => hdL (sb.subset q), sb⟩,
              lst := fun l hl => by
                rw [AG.off l fun e => hdL (e ▸ hl)]; exact E.lst l hl,
              bag := fun b q hb => (E.bag b q hb).agN AG,
              base := fun a o e => by
                obtain ⟨e1, e2⟩ := hid_some.mp e
                exact hid_some.mpr ⟨e1, (hid_some.mp e2).2⟩,
              pers := Same.refl _, bO := E.bO,
              al := fun o ho => by rw [AG.off o fun e => hdc (e ▸ ho)]; exact E.al o ho }
          refine hix H1 _ (AG.sqt (same_t same_hid hsq)) ⟨d, od, xs, rfl, hsys, hd1, ?_⟩
          show tLc (fun _ H R => R (ItN c.pr c.wd d od xs) H) g t te vs σ H1 (fun v H' => H' d = some (.frz od (.ext (DictBare c.pr c.wd xs d))) ∧ Q v (upd H' d (.ext (DictBare c.pr c.wd xs d))))
          refine lc_go (c := { c with H0 := hid L H1 }) (P := hid (L ++ c.O) H1) (L := L) (J := ItN c.pr c.wd d od xs) E' (it_n (hid_some.mpr ⟨hdO, hd1⟩) (rk.agN (AG.hid hdO))) (h _) fun p ys es n2 H2 s2 hp hp2 r2 j2 k => ?_
          have hdB : d ∉ c.B := fun q => hdc (E.inO q)
          have hd2 : H2 d = some (.frz od (.ext (DictBare c.pr c.wd xs d))) := (hid_some.mp (s2 d _ (hid_some.mpr ⟨hdB, hd1⟩))).2
          have AG2 : AgN d (DictBare c.pr c.wd xs d) H2 (upd H2 d (.ext (DictBare c.pr c.wd xs d))) := ⟨fun a ha => upd_ne ha, .inr ⟨od, hd2⟩, .inl upd_same⟩
          have npd : p ≠ d := fun e => by rw [e, hd1] at hp; cases hp
          refine ⟨hd2, q p ys es n2 _ (fun a o e => ?_) ?_ (by rw [upd_ne npd]; exact hp2) (r2.agN (AG2.hid fun q => ?_)) (fun b q hb => (j2 b q hb).agN AG2) k⟩
          · obtain ⟨e1, e2⟩ := hid_some.mp e
            refine hid_some.mpr ⟨e1, ?_⟩
            by_cases q : a = d
            · subst q; rw [upd_same, ← e2, hH]
            · rw [upd_ne q]
              have : H1 a = some o := by rw [AG.off a q]; exact e2
              exact (hid_some.mp (s2 a o (hid_some.mpr ⟨e1, this⟩))).2
          · rw [← AG.off p npd]; exact hp
          · rcases List.mem_cons.mp q with q | q
            · exact npd q.symm
            · exact hdO q
        · right
          refine hix H _ (same_t same_hid hsq) ⟨d, od, xs, rfl, hsys, (hid_some.mp hd).2, ?_⟩
          show tLc (fun _ H R => R (ItN c.pr c.wd d od xs) H) g t te vs σ H Q
          exact lc_go (c := c) (L := L) (J := ItN c.pr c.wd d od xs) E.pers' (it_n hd rk) (h c.H0) q
end
end L3
/-! L3y: isinstance of a tuple of types; {k: v for ..}. -/
namespace L3
open PySem L2
def rIsi2 (K : PySem.W.Frag) : List V → Hp → VK → Prop := fun xs H Q => ∃ (x : V) (tp : Addr) (cs : List V) (t : Value) (us : List Value) (b : Bool), xs = [x, .ref tp] ∧ SqT K H tp cs ∧ Paired ClsV cs us ∧ TyX K H x t ∧ PySem.W.kitAny K t us = some b ∧ Q (.bl b) H
theorem x_isi2 {X : Cx} (K : PySem.W.Frag) (hK : X.K = K := by rfl) : CallR X (.builtin "isinstance") (rIsi2 K) := by
  subst hK
  intro pins s σ H xs us Q I r h
  obtain ⟨x, tp, cs, t, ws, b, rfl, hT, k, ty, e, q⟩ := h
  obtain ⟨u1, u2, rfl, r1, r2⟩ := vals2 r
  cases (show u2 = Value.ref tp from r2)
  obtain ⟨P, Z, p, hx⟩ := kit_of I r1 ty
  rcases hT with hT | ⟨o, its, n, hk, hc, hd, _, rv⟩
  · obtain ⟨_, its, rv, o, h1, h2, n, h3⟩ := hT.ok I.hok
    have e3 := ClsV.all k rv
    subst e3
    obtain ⟨oc, od, dt, sl⟩ := o
    simp only at h2 h3
    subst h2 h3
    exact PySem.W.kia_tup Z I.kIn p h1 e hx fun tk => ⟨.bl b, H, I.tok tk, rfl, q⟩
  · have e3 := ClsV.all k rv
    subst e3
    have h1 := I.kIn _ _ hk
    obtain ⟨oc, od, dt, sl⟩ := o
    obtain ⟨il⟩ := its
    simp only at hc hd
    subst hc hd
    exact PySem.W.kia_tup Z I.kIn p h1 e hx fun tk => ⟨.bl b, H, I.tok tk, rfl, q⟩
theorem rp_tys {K : PySem.W.Frag} {H : Hp} : ∀ {vs : List V} {Us : List String}, RpAll K H vs (Us.map .ty) → Paired ClsV vs (Us.map Value.type)
  | _, [], h => by cases h; exact .nil
  | _, U :: Us, h => by
    cases h with
    | cons h r => cases h; exact .cons (.ty U) (rp_tys r)
theorem rc_isi2 {K : PySem.W.Frag} {Φ : D → Prop} {d : D} {T : String} {Us : List String} {b : Bool} (h : tyD d = some T) (hk : PySem.W.kitAny K (.type T) (Us.map Value.type) = some b) (k : Φ (.bl b)) : RCD K (rIsi2 K) [d, .tup (Us.map .ty)] Φ := fun O H xs Q rs no q => by
  obtain ⟨v, u, rfl, r1, r2⟩ := rs.two
  cases r2 with
  | tup hs ha => exact ⟨v, _, _, .type T, _, b, rfl, same_t same_hid hs, rp_tys ha, tyD_X r1 h, hk, q _ _ H (Same.refl _) (.bl _) k⟩
theorem kit_rowL {K : PySem.W.Frag} : PySem.W.kitAny K (.type "list") (["list", "tuple"].map Value.type) = some true := kitAny_cons (b := true) (kit_ty (by decide +kernel)) nofun fun _ => rfl
theorem kit_rowT {K : PySem.W.Frag} : PySem.W.kitAny K (.type "tuple") (["list", "tuple"].map Value.type) = some true := kitAny_cons (b := false) (kit_ty (by decide +kernel)) (fun _ => kitAny_cons (b := true) (kit_ty (by decide +kernel)) nofun fun _ => rfl) nofun
section
variable {c : Ctx} {ρ : List SD} {n : Nat} {g : TG} {tk tv : TE} {t : TT} {vs : List Nat}
/-- a new thing of one's own changes -/
theorem Env.growAny {P : Hp} {L : List Addr} {n : Nat} {H : Hp} {σ : List (Option V)} {D : Addr} {u : HO} {Ls : List Addr} (E : Env c P L n H σ ρ) (hD : D ∈ L) (sl : Slots c.pr c.wd c.K (L ++ c.O) H σ ρ Ls) (sb : Ls.Sublist L) (hn : D ∉ Ls) : Env c P L n (upd H D u) σ ρ := by
  have hm : D ∈ L ++ c.O := List.mem_append_left _ hD
  have hB : D ∉ c.B := E.notB hD
  have hO : D ∉ c.O := (E.fresh D hD).2
  exact { nd := E.nd, fresh := E.fresh,
          slots := ⟨Ls, sl.move (fun l hl => upd_ne fun e => hn (e ▸ hl)) (by rw [hid_upd_in hm]; exact Same.refl _), sb⟩,
          lst := fun l hl => by
            by_cases e : l = D
            · exact ⟨_, by rw [e, upd_same]⟩
            · rw [upd_ne e]; exact E.lst l hl,
          bag := fun b q hb => (E.bag b q hb).move (fun o h => by rw [upd_ne fun e : b = D => hO (e ▸ (E.bO b q hb).1)]; exact h) fun o h => by rw [upd_ne fun e : q = D => hO (e ▸ (E.bO b q hb).2.1)]; exact h,
          base := fun a o h => by
            have h0 : c.H0 D = none := (E.fresh D hD).1
            have ne : a ≠ D := fun e => by
              rw [e, hid_some] at h
              rw [h0] at h
              cases h.2
            obtain ⟨h1, h2⟩ := hid_some.mp (E.base a o h)
            exact hid_some.mpr ⟨h1, by rw [upd_ne ne]; exact h2⟩,
          pers := by rw [hid_upd_in hm]; exact E.pers,
          bO := E.bO,
          al := fun o ho => by rw [upd_ne fun e : o = D => hO (e ▸ ho)]; exact E.al o ho }
/-- {k: v for ..} -/
theorem we_dc {wi : TI} {Φ : Nat → D → Prop} (h : WI c wi ρ n fun n1 ds => ∃ I : Nat → Nat → List (L2.Key × D) → Prop, I 0 n1 [] ∧
    (∀ k m acc d, ds[k]? = some d → I k m acc → WG c (RW vs) g d (wipeR ρ vs) m fun ρ2 => WT c t ρ2 m fun m2 b => if b = true then WE c tk ρ2 m2 fun m3 y => WE c tv ρ2 m3 fun m4 z => ∃ key, y = kD key ∧ acc.length < sizeLine ∧ I (k + 1) m4 (putKD acc key z) else I (k + 1) m2 acc) ∧
    (∀ m acc, I ds.length m acc → Φ m (.dct acc))) : WE c (tDc wi g t tk tv vs) ρ n Φ := fun P L σ H Q E q => by
  refine h P L σ H _ E fun J ds n1 H1 s1 j1 it ⟨I, h0, hs, hd⟩ => ?_
  intro D hD
  have E1 := (E.step s1 j1).pers'
  obtain ⟨Ls, sl, sb⟩ := E1.slots
  obtain ⟨Lw, slw, sbw⟩ := sl.wipe vs
  have Ew : Env c (hid (L ++ c.O) H1) L n1 H1 (wipe σ vs) (wipeR ρ vs) := E1.reslot slw (sbw.trans sb)
  have E2 := Ew.newAny (o := .dK []) hD
  have DnL : D ∉ L := (E1.new hD).2.2
  have DnO : D ∉ L ++ c.O := E1.noO D hD
  refine ⟨fun i m H' => m + i = ds.length ∧ ∃ n' xs acc, Env c (hid (L ++ c.O) H1) (D :: L) n' H' (wipe σ vs) (wipeR ρ vs) ∧ H' D = some (.dK xs) ∧ RpKs c.K (hid ((D :: L) ++ c.O) H') xs acc ∧ Same (hid c.B H1) (hid c.B H') ∧ I i n' acc, ⟨ds.length, rfl, n1, [], [], E2, upd_same, .nil, (E1.newT hD).1, h0⟩, ?_⟩
  rintro i m H' ⟨hm, n', xs, acc, E', hDx, hacc, sB, hI⟩
  by_cases hi : i < ds.length
  · right
    have hg : ds[i]? = some ds[i] := List.getElem?_eq_getElem hi
    obtain ⟨go, yl⟩ := it.go (D :: L) n' H' _ _ E' i _ hg
    refine ⟨go, fun H2 => ∃ n' xs acc, Env c (hid (L ++ c.O) H1) (D :: L) n' H2 (wipe σ vs) (wipeR ρ vs) ∧ H2 D = some (.dK xs) ∧ RpKs c.K (hid ((D :: L) ++ c.O) H2) xs acc ∧ Same (hid c.B H1) (hid c.B H2) ∧ I (i + 1) n' acc, ?_, ?_⟩
    · rintro H2 ⟨n2, xs2, acc2, a1, a2, a3, a4, a5⟩
      exact ⟨m - 1, by omega, by omega, n2, xs2, acc2, a1, a2, a3, a4, a5⟩
    · intro x H2 hy
      obtain ⟨sm, rx⟩ := yl x H2 hy
      have z := E'.same sm
      have E2' := E'.step z.1 z.2
      refine hs i n' acc _ hg hI _ (D :: L) _ H2 x _ E2' rx fun σ3 ρ3 E3 hw k3 => ?_
      refine ⟨hw.trans (wipe_idem σ vs), ?_⟩
      refine k3 _ (D :: L) σ3 H2 _ E3 fun b n4 H4 s4 j4 k4 => ?_
      have back : ∀ {H5 : Hp} {n5 : Nat}, Same (hid c.B H2) (hid c.B H5) → c.J n5 H5 → Env c (hid (L ++ c.O) H1) (D :: L) n5 H5 (wipe σ vs) (wipeR ρ vs) := fun s5 j5 => E2'.step s5 j5
      have own : ∀ {H5 : Hp}, Same (hid c.B H2) (hid c.B H5) → H5 D = some (.dK xs) := fun s5 => by
        rw [E2'.own s5 D List.mem_cons_self]
        exact sm D _ hDx
      have accs : ∀ {H5 : Hp}, Same (hid c.B H2) (hid c.B H5) → RpKs c.K (hid ((D :: L) ++ c.O) H5) xs acc := fun s5 => (hacc.mono (same_hid_of sm)).mono (E2'.sameLO s5)
      cases b with
      | false =>
        rw [if_neg Bool.false_ne_true] at k4 ⊢
        exact ⟨n4, xs, acc, back s4 j4, own s4, accs s4, (sB.trans z.1).trans s4, k4⟩
      | true =>
        rw [if_pos rfl] at k4 ⊢
        refine k4 _ (D :: L) σ3 H4 _ (E3.step s4 j4) fun y d n5 H5 s5 j5 r5 k5 => ?_
        refine k5 _ (D :: L) σ3 H5 _ ((E3.step s4 j4).step s5 j5) fun y2 d2 n6 H6 s6 j6 r6 ⟨key, ek, hz, k6⟩ => ?_
        subst ek
        have ey : y = kV key := by
          cases key with
          | inl i => cases r5; rfl
          | inr i => cases r5; rfl
        have s46 := (s4.trans s5).trans s6
        refine ⟨xs, key, ey, own s46, by rw [hacc.length]; exact hz, n6, putK xs key y2, putKD acc key d2, ?_, upd_same, ?_, ?_, k6⟩
        · have Eb := back s46 j6
          obtain ⟨Ls5, sl5, sb5⟩ := Eb.slots
          have e5 := sl5.inj slw
          subst e5
          exact Eb.growAny List.mem_cons_self sl5 sb5 fun q => DnL ((sbw.trans sb).subset q)
        · have hm : D ∈ (D :: L) ++ c.O := List.mem_append_left _ List.mem_cons_self
          rw [hid_upd_in hm]
          exact RpKs.put r6 (accs s46)
        · exact same_upd_old hD ((sB.trans z.1).trans s46)
  · left
    have e : i = ds.length := by omega
    subst e
    refine ⟨it.stop (D :: L) n' H' _ _ E' _ (Nat.le_refl _), ?_⟩
    exact q _ _ n' H' (s1.trans sB) E'.bag (.dct (.inl (by rw [hid_out DnO]; exact hDx)) (hacc.mono (same_hid_sub fun a ha => List.mem_cons_of_mem _ ha))) (hd n' acc hI)
end
theorem r2_dgetK {K : PySem.W.Frag} {Φ : D → Prop} {kvs : List (L2.Key × D)} {y : D} {k : L2.Key} {d : D} (hk : keyK y = some k) (hl : lookK kvs k = some d) (kk : Φ d) : R2D K (fun x y H2 Q => ∃ a v, x = .ref a ∧ DGet H2 a y (some v) ∧ Q v H2) (.dct kvs) y Φ := fun O H x z Q rx ry no q => by
  cases rx with
  | dct hs rk =>
    obtain ⟨v, hv, rv⟩ := rk.look.1 d hl
    exact ⟨_, v, rfl, .inl ⟨_, k, same_rd same_hid hs, keyK_V ry hk, hv.symm⟩, q v d H (Same.refl _) rv kk⟩
/-- a method as its callers see it -/
structure Mt (P : Program) (w : World) (K : PySem.W.Frag) (mg : Str → Option Value) (base : Heap) (C : Addr) (x : Str) (k : Nat) (ps : List Str) (S : L3.Spec) where
  f : Addr
  fd : FuncData
  cl : Cls K C
  me : Meth K C x f
  G : FnOk P w K mg base CX0 k f fd ps (spD K S)
  b : Binds K fd ps []
end L3
/-! L3z: errors over data: defs that raise, raise, try .. except .. as. -/
namespace L3
open PySem L2
/-! ### promises with errors -/
/-- wished of an error, told by its class and its fields -/
abbrev Er := Nat → List SD → Addr → List (Str × D) → Prop
def XA (c : Ctx) (W : WX) (Ξ : Er) : Prop :=
  ∀ P L n H σ ρ C dx fs ks, Env c P L n H σ ρ → H dx = some (.xd fs) → dx ∉ L ++ c.O → RpFs c.K (hid (L ++ c.O) H) fs ks → Ξ n ρ C ks → W (.ref C) (some dx) σ H
abbrev SpecX := Option (Addr × Addr) → Nat → List D → (Nat → D → Prop) → (Nat → Addr → List (Str × D) → Prop) → Prop
def spDX (K : PySem.W.Frag) (S : SpecX) : Sp := fun vs H Q E => ∃ (O : List Addr) (bag : Option (Addr × Addr)) (n : Nat) (ds : List D) (Φ : Nat → D → Prop) (Ξ : Nat → Addr → List (Str × D) → Prop),
  (∀ b q, bag = some (b, q) → BagOk b q n H ∧ b ∈ O ∧ q ∈ O ∧ q ≠ b) ∧ (∀ o ∈ O, H o ≠ none) ∧ RpAll K (hid O H) vs ds ∧ S bag n ds Φ Ξ ∧
  (∀ v d n' H', Same (hid (bagB bag) H) (hid (bagB bag) H') → (∀ b q, bag = some (b, q) → BagOk b q n' H') → Rp K (hid O H') v d → Φ n' d → Q v H') ∧
  ∀ C dx fs ks n' H', Same (hid (bagB bag) H) (hid (bagB bag) H') → (∀ b q, bag = some (b, q) → BagOk b q n' H') → H' dx = some (.xd fs) → dx ∉ O → RpFs K (hid O H') fs ks → Ξ n' C ks → E (.ref C) (some dx) H'
section
variable {P : Program} {w : World} {K : PySem.W.Frag} {mg : Str → Option Value} {base : Heap}
theorem env_start {O : List Addr} {bag : Option (Addr × Addr)} {n : Nat} {H : Hp} {vs : List V} {ds : List D} (N : List Str) (hb : ∀ b q, bag = some (b, q) → BagOk b q n H ∧ b ∈ O ∧ q ∈ O ∧ q ≠ b) (hO : ∀ o ∈ O, H o ≠ none) (r : RpAll K (hid O H) vs ds) :
    Env ⟨P, w, K, O, bag, H⟩ (fun _ => none) [] n H (L2.start N vs) (rho N ds) := by
  have e : L2.start N vs = vs.map some ++ List.replicate (N.length - ds.length) none := by unfold L2.start; rw [r.length]
  exact { nd := List.nodup_nil, fresh := (fun l hl => nomatch hl), slots := ⟨[], by rw [e]; exact slots_start r, List.Sublist.refl _⟩, lst := (fun l hl => nomatch hl), bag := fun b q e => (hb b q e).1, base := Same.refl _,
          pers := (fun _ _ e => nomatch e), bO := fun b q e => (hb b q e).2, al := hO }
/-- THE RULE for a def that may raise -/
theorem fn_DX {x qual : Str} {st : Stmt} {f : Addr} {fd : FuncData} {N ps : List Str} {k : Nat} {S : SpecX} (F : Fun K x qual st f fd) (sc : FnScope N ps (defScope st))
    (len : ∀ bag n ds Φ Ξ, S bag n ds Φ Ξ → ds.length = ps.length)
    (body : ∀ (cdv : Value) (A : Around) (outer : List PySem.Env) (s : Shared) (H : Hp) (E : XK) (O : List Addr) (bag : Option (Addr × Addr)) (n : Nat) (ds : List D) (Φ : Nat → D → Prop) (Ξ : Nat → Addr → List (Str × D) → Prop), Room k (A.deeper (PyProof.Rows.envOfC qual (defScope st) s.heap.objs.size f cdv)) → S bag n ds Φ Ξ →
      XA ⟨P, w, K, O, bag, H⟩ (fun cls d _ H' => E cls d H') (fun n' _ C ks => Ξ n' C ks) →
      ∃ t, PSs (cxOf (L2.CX P w) P w K mg base N qual (defScope st) f cdv A outer s H E) (defBody st) t ∧ WS ⟨P, w, K, O, bag, H⟩ t (rho N ds) n { nx := fun n' _ => Φ n' .non, rt := Φ }) :
    FnOk P w K mg base (L2.CX P w) (k + 1) f fd ps (spDX K S) := by
  refine F.okX sc (fun vs H Q E h => ?_) (fun cdv A outer s H vs Q E hr h => ?_)
  · obtain ⟨O, bag, n, ds, Φ, Ξ, _, _, r, hS, _⟩ := h
    rw [r.length]; exact len bag n ds Φ Ξ hS
  · obtain ⟨O, bag, n, ds, Φ, Ξ, hb, hO, r, hS, q, qx⟩ := h
    have hx : XA ⟨P, w, K, O, bag, H⟩ (fun cls d _ H' => E cls d H') (fun n' _ C ks => Ξ n' C ks) := fun P' L n' H' σ ρ C dx fs ks E' hd hn hf kk =>
      qx C dx fs ks n' H' E'.base (fun b q e => E'.bag b q e) hd (fun z => hn (List.mem_append_right _ z)) (hf.mono (same_hid_sub fun a ha => List.mem_append_right _ ha)) kk
    obtain ⟨t, ht, W⟩ := body cdv A outer s H E O bag n ds Φ Ξ hr hS hx
    refine ⟨t, ht, W (fun _ => none) [] _ H _ (env_start N hb hO r) ?_⟩
    exact { nx := fun L n' H' σ ρ E k => q .non .non n' H' E.base (fun b q e => E.bag b q e) .non k,
            rt := fun v d n' H' s j r k => q v d n' H' s j r k, bk := fun _ _ _ _ _ _ k => k.elim, ct := fun _ _ _ _ _ _ k => k.elim }
end
section
variable {c : Ctx} {ρ : List SD} {n : Nat} {te to : TE} {as : TA} {Φ : Nat → D → Prop} {W : WX} {Ξ : Er} {Ψ : Out}
theorem we_callX {S : SpecX} {dvs : List V} {dds : List D} (hw : XA c W Ξ) (hd : ∀ H, RpAll c.K H dvs dds) (h : WA c as ρ n fun n1 ds => S c.bag n1 (ds ++ dds) Φ fun n2 C ks => Ξ n2 ρ C ks) :
    WE c (tCallSD (spDX c.K S) dvs (fun σ => L2.WE W σ) as) ρ n Φ := fun P L σ H Q E q => by
  refine h P L σ H _ E fun vs ds n1 H1 s1 j1 r1 k => ?_
  have E1 := E.step s1 j1
  refine ⟨L ++ c.O, c.bag, n1, ds ++ dds, Φ, _, fun b q hb => ⟨j1 b q hb, List.mem_append_right _ (E.bO b q hb).1, List.mem_append_right _ (E.bO b q hb).2.1, (E.bO b q hb).2.2⟩, E1.alLO, r1.append (hd _), k,
    fun v d n2 H2 s2 j2 r2 k2 => q v d n2 H2 (s1.trans s2) j2 r2 k2, fun C dx fs ks n2 H2 s2 j2 hx hn hf kk => ?_⟩
  exact hw P L n2 H2 σ ρ C dx fs ks (E1.step s2 j2) hx hn hf kk
theorem we_methX {C : Addr} {m : Str} {S : SpecX} {dvs : List V} {dds : List D} {XE : XK} (hw : XA c (fun cls d _ H => XE cls d H) Ξ) (hd : ∀ H, RpAll c.K H dvs dds)
    (h : WE c to ρ n fun n1 x => ∃ ds, x = .obj C ds ∧ ds.lookup m = none ∧ WA c as ρ n1 fun n2 es => S c.bag n2 (.obj C ds :: (es ++ dds)) Φ fun n3 C ks => Ξ n3 ρ C ks) : WE c (tMeth C m (spDX c.K S) dvs XE to as) ρ n Φ := fun P L σ H Q E q => by
  refine h P L σ H _ E fun x d n1 H1 s1 j1 r1 ⟨ds, e, hn, ha⟩ => ?_
  subst e
  have E1 := E.step s1 j1
  cases r1 with
  | obj h1 hf =>
    refine ⟨_, _, _, rfl, (hid_some.mp h1).2, hf.none hn, ?_⟩
    refine ha P L σ H1 _ E1 fun vs es n2 H2 s2 j2 r2 k => ?_
    have E2 := E1.step s2 j2
    refine ⟨L ++ c.O, c.bag, n2, _, Φ, _, fun b q hb => ⟨j2 b q hb, List.mem_append_right _ (E.bO b q hb).1, List.mem_append_right _ (E.bO b q hb).2.1, (E.bO b q hb).2.2⟩, E2.alLO, .cons ((Rp.obj h1 hf).mono (E1.sameLO s2)) (r2.append (hd _)), k,
      fun v d n3 H3 s3 j3 r3 k3 => q v d n3 H3 ((s1.trans s2).trans s3) j3 r3 k3, fun C' dx fs ks n3 H3 s3 j3 hx hn hf kk => ?_⟩
    exact hw P L n3 H3 σ ρ C' dx fs ks (E2.step s3 j3) hx hn hf kk

/-! ### raise -/
theorem RpFs.append {K : PySem.W.Frag} {H : Hp} : ∀ {vs : List (Str × V)} {ds : List (Str × D)} {vs' : List (Str × V)} {ds' : List (Str × D)}, RpFs K H vs ds → RpFs K H vs' ds' → RpFs K H (vs ++ vs') (ds ++ ds')
  | _, _, _, _, .nil, r => r
  | _, _, _, _, .cons h t, r => .cons h (t.append r)
theorem RpFs.rev {K : PySem.W.Frag} {H : Hp} : ∀ {vs : List (Str × V)} {ds : List (Str × D)}, RpFs K H vs ds → RpFs K H vs.reverse ds.reverse
  | _, _, .nil => .nil
  | _, _, .cons h t => by
    rw [List.reverse_cons, List.reverse_cons]
    exact t.rev.append (.cons h .nil)
theorem rpfs_zip {K : PySem.W.Frag} {H : Hp} : ∀ {fs : List Str} {vs : List V} {ds : List D}, RpAll K H vs ds → RpFs K H (fs.zip vs) (fs.zip ds)
  | [], _, _, _ => .nil
  | _ :: _, _, _, .nil => .nil
  | _ :: _, _, _, .cons h t => .cons h (rpfs_zip t)
/-- an error's __init__ that keeps its arguments -/
def spXI (C : Addr) (fs : List Str) : Sp := fun vs H Q _ => ∃ (a : Addr) (ws : List V), vs = .ref a :: ws ∧ ws.length = fs.length ∧ H a = some (exo a C none) ∧
  ∀ (d : Addr) (H' : Hp), H d = none → H' a = some (exo a C (some d)) → H' d = some (exd d (fs.zip ws).reverse) → (∀ b, b ≠ a → b ≠ d → H' b = H b) → Q .non H'
theorem ws_raise {C : Addr} {fs : List Str} (hw : XA c W Ξ) (h : WA c as ρ n fun n1 ds => ds.length = fs.length ∧ fs.length ≤ 1000 ∧ Ξ n1 ρ C (fs.zip ds).reverse) :
    WS c (fun _ σ H => tMkO C (spXI C fs) [] as σ H fun cls d H' => W cls d σ H') ρ n Ψ := fun P L σ H Dn E A => by
  refine h P L σ H _ E fun vs ds n1 H1 s1 j1 r1 ⟨hl, hz, k⟩ => ?_
  have E1 := E.step s1 j1
  have hvl : vs.length = fs.length := r1.length.trans hl
  refine ⟨by omega, fun a ha => ⟨a, vs, by rw [List.append_nil], hvl, upd_same, fun d H' hd e1 e2 e3 => ?_⟩⟩
  have hda : d ≠ a := fun z => by
    rw [z, upd_same] at hd
    cases hd
  have hd1 : H1 d = none := by rw [upd_ne hda] at hd; exact hd
  refine ⟨rfl, d, _, e1, e2, hd1, ?_⟩
  have eH : upd (del H' a) d (.xd (fs.zip vs).reverse) = upd H1 d (.xd (fs.zip vs).reverse) := by
    funext b
    by_cases hb : b = d
    · rw [hb, upd_same, upd_same]
    · rw [upd_ne hb, upd_ne hb]
      by_cases hba : b = a
      · rw [hba, del_same, ha]
      · rw [del_ne hba, e3 b hba hb, upd_ne hba]
  rw [eH]
  have dO : d ∉ L ++ c.O := E1.noO d hd1
  have sm : Same H1 (upd H1 d (.xd (fs.zip vs).reverse)) := same_upd_new hd1
  obtain ⟨s2, j2⟩ := E1.same sm
  exact hw P L n1 _ σ ρ C d _ _ (E1.step s2 j2) upd_same dO ((rpfs_zip r1).rev.mono (same_hid_of sm)) k
end

/-! ### what is owned is hidden for a while -/
/-- one's own things put aside -/
def asd : SD → SD
  | .un => .un
  | .val d => .val d
  | _ => .un
section
variable {pr : Program} {wd : World} {K : PySem.W.Frag} {O : List Addr} {H : Hp}
theorem Slots.asd : ∀ {σ : List (Option V)} {ρ : List SD} {L : List Addr}, Slots pr wd K O H σ ρ L → Slots pr wd K O H σ (ρ.map L3.asd) []
  | _, _, _, .nil => .nil
  | _, _, _, .un s => .un s.asd
  | _, _, _, .val h s => .val h s.asd
  | _, _, _, .own _ _ s => .un s.asd
  | _, _, _, .dic _ s => .un s.asd
  | _, _, _, .dk _ s => .un s.asd
  | _, _, _, .tw _ s => .un s.asd
  | _, _, _, .ot _ _ s => .un s.asd
theorem Slots.gone : ∀ {σ : List (Option V)} {ρ : List SD} {L : List Addr} (i : Nat), Slots pr wd K O H σ ρ L → ∃ L', Slots pr wd K O H (σ.set i none) (ρ.set i .un) L' ∧ L'.Sublist L
  | _, _, _, _, .nil => ⟨[], .nil, List.Sublist.refl _⟩
  | _, _, _, 0, .un s => ⟨_, .un s, List.Sublist.refl _⟩
  | _, _, _, 0, .val _ s => ⟨_, .un s, List.Sublist.refl _⟩
  | _, _, _, 0, .own _ _ s => ⟨_, .un s, List.sublist_cons_self _ _⟩
  | _, _, _, 0, .dic _ s => ⟨_, .un s, List.sublist_cons_self _ _⟩
  | _, _, _, 0, .dk _ s => ⟨_, .un s, List.sublist_cons_self _ _⟩
  | _, _, _, 0, .tw _ s => ⟨_, .un s, List.sublist_cons_self _ _⟩
  | _, _, _, i + 1, .un s => by
    obtain ⟨L', h1, h2⟩ := Slots.gone i s
    exact ⟨L', .un h1, h2⟩
  | _, _, _, i + 1, .val h s => by
    obtain ⟨L', h1, h2⟩ := Slots.gone i s
    exact ⟨L', .val h h1, h2⟩
  | _, _, _, i + 1, .own h r s => by
    obtain ⟨L', h1, h2⟩ := Slots.gone i s
    exact ⟨_ :: L', .own h r h1, h2.cons_cons _⟩
  | _, _, _, i + 1, .dic h s => by
    obtain ⟨L', h1, h2⟩ := Slots.gone i s
    exact ⟨_ :: L', .dic h h1, h2.cons_cons _⟩
  | _, _, _, i + 1, .dk h s => by
    obtain ⟨L', h1, h2⟩ := Slots.gone i s
    exact ⟨_ :: L', .dk h h1, h2.cons_cons _⟩
  | _, _, _, i + 1, .tw h s => by
    obtain ⟨L', h1, h2⟩ := Slots.gone i s
    exact ⟨_ :: L', .tw h h1, h2.cons_cons _⟩
  | _, _, _, 0, .ot _ q s => ⟨_, .un s, by rw [q]; exact List.sublist_append_right _ _⟩
  | _, _, _, i + 1, .ot h q s => by
    obtain ⟨L', h1, h2⟩ := Slots.gone i s
    exact ⟨_, .ot h rfl h1, by rw [q]; exact List.Sublist.append_left h2 _⟩
end
section
variable {c : Ctx} {P P' : Hp} {L L' : List Addr} {n n' : Nat} {H H' : Hp} {σ σ' : List (Option V)} {ρ ρ' : List SD}
theorem Env.unset (E : Env c P L n H σ ρ) (i : Nat) : Env c P L n H (σ.set i none) (ρ.set i .un) := by
  obtain ⟨Ls, sl, sb⟩ := E.slots
  obtain ⟨L', s, sub⟩ := sl.gone i
  exact E.reslot s (sub.trans sb)
/-- a new beginning at this heap -/
theorem Env.re (E : Env c P L n H σ ρ) : Env { c with O := L ++ c.O, H0 := H } (fun _ => none) [] n H σ (ρ.map asd) where
  nd := List.nodup_nil
  fresh := (fun l hl => nomatch hl)
  slots := by
    obtain ⟨Ls, sl, _⟩ := E.slots
    exact ⟨[], sl.asd, List.Sublist.refl _⟩
  lst := (fun l hl => nomatch hl)
  bag := E.bag
  base := Same.refl _
  pers := (fun _ _ e => nomatch e)
  bO := fun b q e => ⟨List.mem_append_right _ (E.bO b q e).1, List.mem_append_right _ (E.bO b q e).2.1, (E.bO b q e).2.2⟩
  al := E.alLO
/-- .. and back -/
theorem Env.back (E : Env c P L n H σ ρ) (E2 : Env { c with O := L ++ c.O, H0 := H } P' L' n' H' σ' ρ') : Env c P (L' ++ L) n' H' σ' ρ' where
  nd := by
    refine List.nodup_append.mpr ⟨E2.nd, E.nd, fun a ha b hb e => ?_⟩
    subst e
    exact (E2.fresh a ha).2 (List.mem_append_left _ hb)
  fresh := fun l hl => by
    rcases List.mem_append.mp hl with q | q
    · have w := E.new (show H l = none from (E2.fresh l q).1)
      exact ⟨w.1, w.2.1⟩
    · exact E.fresh l q
  slots := by
    obtain ⟨Ls, sl, sb⟩ := E2.slots
    refine ⟨Ls, ?_, sb.trans (List.sublist_append_left _ _)⟩
    rw [List.append_assoc]
    exact sl
  lst := fun l hl => by
    rcases List.mem_append.mp hl with q | q
    · exact E2.lst l q
    · obtain ⟨o, h⟩ := E.lst l q
      exact ⟨o, (hid_some.mp (E2.base l o (hid_some.mpr ⟨E.notB q, h⟩))).2⟩
  bag := E2.bag
  base := E.base.trans E2.base
  pers := fun a o h => by
    obtain ⟨h1, h2⟩ := hid_some.mp (E.pers a o h)
    refine hid_some.mpr ⟨fun q => ?_, (hid_some.mp (E2.base a o (hid_some.mpr ⟨fun q => h1 (E.BLO a q), h2⟩))).2⟩
    rw [List.append_assoc] at q
    rcases List.mem_append.mp q with q | q
    · have z : H a = none := (E2.fresh a q).1
      rw [h2] at z
      cases z
    · exact h1 q
  bO := E.bO
  al := fun o ho => E2.al o (List.mem_append_right _ ho)
/-- what was seen of the ground at the new beginning -/
theorem Env.old (E : Env c P L n H σ ρ) : Same (hid c.O c.H0) (hid (L ++ c.O) H) := fun a o h => by
  obtain ⟨h1, h2⟩ := hid_some.mp h
  refine hid_some.mpr ⟨fun q => ?_, (hid_some.mp (E.base a o (hid_some.mpr ⟨fun q => h1 (E.inO q), h2⟩))).2⟩
  rcases List.mem_append.mp q with q | q
  · have z := (E.fresh a q).1
    rw [h2] at z
    cases z
  · exact h1 q
theorem Acc.re {Ψ : Out} {Dn : Ends} (E : Env c P L n H σ ρ) (A : Acc c P Ψ Dn) {P2 : Hp} : Acc { c with O := L ++ c.O, H0 := H } P2 Ψ Dn where
  nx := fun L2 n2 H2 σ2 ρ2 E2 k => A.nx (L2 ++ L) n2 H2 σ2 ρ2 (E.back ({ E2 with pers := E2.pers } : Env { c with O := L ++ c.O, H0 := H } P2 L2 n2 H2 σ2 ρ2)) k
  rt := fun v d n2 H2 s j r k => A.rt v d n2 H2 (E.base.trans s) j (r.mono (same_hid_sub fun a ha => List.mem_append_right _ ha)) k
  bk := fun L2 n2 H2 σ2 ρ2 E2 k => A.bk (L2 ++ L) n2 H2 σ2 ρ2 (E.back E2) k
  ct := fun L2 n2 H2 σ2 ρ2 E2 k => A.ct (L2 ++ L) n2 H2 σ2 ρ2 (E.back E2) k
end

/-! ### try .. except X as e -/
/-- behind a suite the error's name is gone -/
def outU (Ψ : Out) (i : Nat) : Out := { nx := fun n ρ => Ψ.nx n (ρ.set i .un), rt := Ψ.rt, bk := fun n ρ => Ψ.bk n (ρ.set i .un), ct := fun n ρ => Ψ.ct n (ρ.set i .un) }
/-- an error that is held: its dict -/
structure Held (c : Ctx) (dx : Addr) (ks : List (Str × D)) : Prop where
  at_ : ∃ fs, c.H0 dx = some (.xd fs) ∧ RpFs c.K (hid c.O c.H0) fs ks
  out : dx ∉ c.O
section
variable {c : Ctx} {ρ : List SD} {n i : Nat} {Ψ : Out} {cl : Value} {tb : WX → TS} {ts : Addr → Value → Option Addr → TS} {Wout : WX} {Ξ : Er}
/-- the reading of a try with one clause -/
def tTry (K : PySem.W.Frag) (cl : Value) (i : Nat) (ts : Addr → Value → Option Addr → TS) (Wout : WX) (tb : WX → TS) : TS := fun D σ H => tb (wAs K cl i ts Wout D) D σ H
theorem ps_try {X : Cx} {x nm : Str} {c : Value} {i : Nat} {body suite : List Stmt} {b₀ : Stmt} {np pos pos' : Pos} {tb : WX → TS} {ts : Addr → Value → Option Addr → TS} {Wout : WX} {K : PySem.W.Frag} (hs : X.stack = X.env :: X.outer) (hf : X.env.frame = some X.env.locals) (hN : X.N.Nodup) (hi : X.N[i]? = some nm) (hln : X.env.kindOf nm = some .local) (hc : Names X x c) (tk : Takes X Wout)
    (hb : ∀ (W : WX) (pn : List (Addr × Obj)) (xe : Value → Shared → Prop), Takes (X.tr pn xe) W → PassesOwn (model X.prog X.w) X.A X.env xe → PSs (X.tr pn xe) body (tb W))
    (hsu : ∀ (a : Addr) (oe : Obj) (cls : Value) (d : Option Addr) (pn : List (Addr × Obj)), Zc cls d oe → (∃ vs, oe.data = .fields vs) → PSs (X.suite a ((a, oe) :: pn)) (b₀ :: suite) (ts a cls d)) (hK : X.K = K := by rfl) :
    PS X (.Try body [.ExceptHandler (some (.Name x np)) (some nm) (b₀ :: suite) pos'] [] [] pos) (tTry K c i ts Wout tb) := hK ▸ ps_try_as hs hf hN hi hln hc tk hb hsu
theorem ws_try
    (hb : ∀ O' H0', ∀ W, XA { c with O := O', H0 := H0' } W Ξ → WS { c with O := O', H0 := H0' } (tb W) (ρ.map asd) n Ψ)
    (hs : ∀ n' ρ' C ks, Ξ n' ρ' C ks → PySem.W.exmOne c.K (.ref C) cl = some true ∧ ∀ O' H0' dx a, Held { c with O := O', H0 := H0' } dx ks → WS { c with O := O', H0 := H0' } (ts a (.ref C) (some dx)) ((ρ'.map asd).set i (.val (.adr a))) n' (outU Ψ i)) :
    WS c (tTry c.K cl i ts Wout tb) ρ n Ψ := fun P L σ H Dn E A => by
  refine hb (L ++ c.O) H _ ?_ (fun _ => none) [] σ H Dn E.re (A.re E)
  intro P2 L2 n2 H2 σ2 ρ2 C dx fs ks E2 hx hn hf kk
  obtain ⟨he, hh⟩ := hs n2 ρ2 C ks kk
  refine ⟨true, he, fun _ a ha => ?_, fun z => nomatch z⟩
  have E3 : Env c P (L2 ++ L) n2 H2 σ2 ρ2 := E.back E2
  have E4 := E3.re
  have eO : (L2 ++ L) ++ c.O = L2 ++ (L ++ c.O) := List.append_assoc _ _ _
  have hd : Held { c with O := (L2 ++ L) ++ c.O, H0 := H2 } dx ks := ⟨⟨fs, hx, by rw [eO]; exact hf⟩, by rw [eO]; exact hn⟩
  refine hh _ _ dx a hd (fun _ => none) [] _ H2 _ (E4.set i (.adr a)) ?_
  exact { nx := fun L5 n5 H5 σ5 ρ5 E5 k => A.nx _ n5 H5 _ _ ((E3.back E5).unset i) k,
          rt := fun v d n5 H5 s j r k => A.rt v d n5 H5 (E3.base.trans s) j (r.mono (same_hid_sub fun a ha => List.mem_append_right _ ha)) k,
          bk := fun L5 n5 H5 σ5 ρ5 E5 k => A.bk _ n5 H5 _ _ ((E3.back E5).unset i) k,
          ct := fun L5 n5 H5 σ5 ρ5 E5 k => A.ct _ n5 H5 _ _ ((E3.back E5).unset i) k }
/-- e.f in the suite -/
theorem we_xf {C a dx : Addr} {f : Str} {ks : List (Str × D)} {te : TE} {Φ : Nat → D → Prop} (hd : Held c dx ks) (h : WE c te ρ n fun n1 x => x = .adr a ∧ ∃ d, ks.lookup f = some d ∧ Φ n1 d) : WE c (tXf a (.ref C) (some dx) C f te) ρ n Φ := fun P L σ H Q E q => by
  refine h P L σ H _ E fun x d n1 H1 s1 j1 r1 ⟨e, d2, hl, k⟩ => ?_
  subst e
  cases r1
  have E1 := E.step s1 j1
  obtain ⟨⟨fs, h1, h2⟩, ho⟩ := hd
  obtain ⟨v, hv, rv⟩ := (h2.mono E1.old).look hl
  exact ⟨rfl, rfl, dx, fs, v, rfl, (hid_some.mp (E1.old dx _ (hid_some.mpr ⟨ho, h1⟩))).2, hv, q v d2 n1 H1 s1 j1 rv k⟩
end

/-! ### errors' __init__ -/
/-- what the text says of AskedError: its __init__ is ValueError's -/
structure AskC (K : PySem.W.Frag) (C0 : Addr) : Prop where
  rd : PySem.W.readsIn K C0 (.type "type") = true
  ga : PySem.W.specialIn K (.ref C0) "__getattribute__" = some (some (.builtin "type.__getattribute__"))
  at_ : PySem.W.findCls K (.ref C0) (.type "type") "__init__" = some (.val (.builtin "ValueError.__init__"))
theorem pe_askinit {X : Cx} {x : Str} {C0 : Addr} {e : Expr} {es : List Expr} {ta : TA} {p1 p2 pos : Pos} {pl : Sem Bool} (hg : Gl X x) (hm : X.mg x = some (.ref C0)) (k : AskC X.K C0) (ha : PA X (e :: es) ta)
    (hdb : (x == ("__debug__" : Str)) = false := by decide)
    (hc : eval (.Call (.Attribute (.Name x p1) "__init__" p2) (e :: es) [] pos) X.env = (do
      let ov ← eval (.Name x p1) X.env
      standAt p2.atName
      let (f, first) ← holding [ov] (getMethod ov "__init__" pl)
      callWith pos f first (backTo pos (starEach (e :: es) X.env)) (backToKw pos (keywordEach [] X.env))) := by rfl)
    (he : starEach (e :: es) X.env = (false, eval e X.env) :: starEach es X.env := by rfl) (hpl : (backTo pos (starEach es X.env)).any (·.1) = false := by rfl) :
    PE X (.Call (.Attribute (.Name x p1) "__init__" p2) (e :: es) [] pos) (tVeI X.K ta) := by
  refine ⟨fun pins s σ H Q I h => ?_⟩
  refine PySem.W.methodCall_KW (ld_glob I hg hm ?_ hdb) hc
  refine PySem.W.method_cls I.kIn k.ga (PySem.W.cls_value I.kIn k.rd k.at_ (by decide +kernel) ?_)
  show wpAny _ _ (callWith pos (Value.builtin "ValueError.__init__") [] (backTo pos (starEach (e :: es) X.env)) []) _ _ _
  refine PyProof.Rows.callWith_method1 (thn (ha.run pos pins _ σ H _ (I.tok _) h) fun us s1 ⟨vs, H1, I1, r1, a, C, ws, ev, hl, T, ea, q⟩ => ?_) he hpl
  subst ev
  cases r1 with
  | @cons _ u0 _ ur ra rw' =>
    obtain rfl : u0 = Value.ref a := ra
    have hlen : ur.length ≤ sizeLine := by
      rw [← Paired.length rw', sizeLine_eq]
      omega
    exact oinit_ok T I1 ea hlen fun s' J => ⟨.non, H1, J, rfl, q⟩
section
variable {P : Program} {w : World} {K : PySem.W.Frag} {mg : Str → Option Value} {base : Heap}
/-- an error's __init__ that says X.__init__(self, 'text') and keeps two arguments -/
theorem xi2_go {C : Addr} {f1 f2 : Str} {t : Str} (T : OexC K C) (n1 : PySem.W.findIn K (.ref C) f1 = some none) (n2 : PySem.W.findIn K (.ref C) f2 = some none) {vs : List V} {H : Hp} {Q : VK} {E : XK} {D : Ends} (h : spXI C [f1, f2] vs H Q E) (hD : ∀ σ H', Q .non H' → D.nx σ H') (r : List (Option V)) :
    tSeq (tDrop (tVeI K (tCons (tVar 0) (tCons (tC (.str t)) tNil)))) (tSeq (tOst K f1 (tVar 0) (tVar 1)) (tOst K f2 (tVar 0) (tVar 2))) D (vs.map some ++ r) H := by
  obtain ⟨a, ws, rfl, hl, ha, q⟩ := h
  match ws, hl with
  | [y1, y2], _ =>
    refine ⟨_, rfl, a, C, _, rfl, by simp, T, ha, ?_⟩
    refine ⟨_, rfl, _, rfl, a, C, rfl, T, n1, .inl ⟨ha, fun dx hn hne => ?_⟩⟩
    refine ⟨_, rfl, _, rfl, a, C, rfl, T, n2, .inr ⟨dx, [(f1, y1)], upd_same, by rw [upd_ne hne, upd_same], Nat.le_of_ble_eq_true rfl, ?_⟩⟩
    refine hD _ _ (q dx _ hn ?_ upd_same fun b hb hb2 => ?_)
    · rw [upd_ne (Ne.symm hne), upd_same]
    · rw [upd_ne hb2, upd_ne hb, upd_ne hb2]
theorem xi1_go {C : Addr} {f1 : Str} {t : Str} (T : OexC K C) (n1 : PySem.W.findIn K (.ref C) f1 = some none) {vs : List V} {H : Hp} {Q : VK} {E : XK} {D : Ends} (h : spXI C [f1] vs H Q E) (hD : ∀ σ H', Q .non H' → D.nx σ H') (r : List (Option V)) :
    tSeq (tDrop (tVeI K (tCons (tVar 0) (tCons (tC (.str t)) tNil)))) (tOst K f1 (tVar 0) (tVar 1)) D (vs.map some ++ r) H := by
  obtain ⟨a, ws, rfl, hl, ha, q⟩ := h
  match ws, hl with
  | [y1], _ =>
    refine ⟨_, rfl, a, C, _, rfl, by simp, T, ha, ?_⟩
    refine ⟨_, rfl, _, rfl, a, C, rfl, T, n1, .inl ⟨ha, fun dx hn hne => ?_⟩⟩
    refine hD _ _ (q dx _ hn upd_same ?_ fun b hb hb2 => ?_)
    · rw [upd_ne hne, upd_same]
      rfl
    · rw [upd_ne hb, upd_ne hb2]
end
/-! ### own lists: x = y.pop() -/
section
variable {X : Cx} {K : PySem.W.Frag}
theorem x_bm0 {o : Expr} {to : TE} {name : Str} {apos cpos : Pos} {T : String} {r : V → List V → Hp → VK → Prop} (h : PE X (.Call (.Attribute o name apos) [] [] cpos) (tBM0 X.K T r to)) (hK : X.K = K := by rfl) : PE X (.Call (.Attribute o name apos) [] [] cpos) (tBM0 K T r to) := hK ▸ h
end
theorem ws_popSet {c : Ctx} {ρ : List SD} {n : Nat} {Ψ : Out} {i j : Nat} {es : List D} {y : D} (h1 : ρ[j]? = some (.own es)) (hy : es[es.length - 1]? = some y) (k : Ψ.nx n ((ρ.set j (.own es.dropLast)).set i (.val y))) :
    WS c (tAsg (tBM0 c.K "list" rPop (tVar j)) (gName i)) ρ n Ψ := fun P L σ H Dn E A => by
  obtain ⟨m, ys, b1, b2, b3, b4⟩ := E.own_at h1
  obtain ⟨u, hu, ru⟩ := b3.get' hy
  refine ⟨.ref m, b1, .inl ⟨rfl, ys, .inl (.inl b2)⟩, m, ys, u, rfl, rfl, b2, by rw [b3.length]; exact hu, ?_⟩
  have hd : RpAll c.K (hid (L ++ c.O) H) ys.dropLast es.dropLast := by
    rw [List.dropLast_eq_take, List.dropLast_eq_take, b3.length]
    exact b3.take _
  have E2 := (b4 ys.dropLast es.dropLast hd).1
  obtain ⟨m'', ys'', f1, f2, f3, f4⟩ := E.pers'.own_at h1
  rw [b1] at f1
  cases f1
  have E2p := (f4 ys.dropLast es.dropLast hd).1.pers
  exact A.nx L n _ _ _ (E2.set i (ru.mono E2p)) k

/-! ### as callers see them -/
/-- a def that may raise -/
structure Dx (P : Program) (w : World) (K : PySem.W.Frag) (mg : Str → Option Value) (base : Heap) (x : Str) (k : Nat) (ps : List Str) (S : L3.SpecX) where
  f : Addr
  fd : FuncData
  G : FnOk P w K mg base (L2.CX P w) k f fd ps (spDX K S)
  m : mg x = some (.ref f)
  k : PySem.W.keepIn K (.ref f) = true
  b : Binds K fd ps []
/-- a method that may raise -/
structure Mx (P : Program) (w : World) (K : PySem.W.Frag) (mg : Str → Option Value) (base : Heap) (C : Addr) (x : Str) (k : Nat) (ps : List Str) (S : L3.SpecX) where
  f : Addr
  fd : FuncData
  cl : Cls K C
  me : Meth K C x f
  G : FnOk P w K mg base (L2.CX P w) k f fd ps (spDX K S)
  b : Binds K fd ps []
/-- an own error: X.__init__ keeps its arguments as the fields fs -/
structure Xn (P : Program) (w : World) (K : PySem.W.Frag) (mg : Str → Option Value) (base : Heap) (x : Str) (fs : List Str) where
  C : Addr
  fI : Addr
  fd : FuncData
  ps : List Str
  T : OexC K C
  iC : PySem.W.findIn K (.ref C) "__init__" = some (some (.ref fI))
  tI : PySem.W.typeIn K (.ref fI) = some (.type "function")
  G : FnOk P w K mg base CX0 1 fI fd ps (spXI C fs)
  b : Binds K fd ps []
  m : mg x = some (.ref C)
  xf : XfC K C
  no : ∀ f ∈ fs, PySem.W.findIn K (.ref C) f = some none
  te : PySem.W.exmOne K (.ref C) (.ref C) = some true
theorem exm_self {K : PySem.W.Frag} {S : Addr} (h1 : PySem.W.subIn K (.ref S) (.type "BaseException") = some true) (h2 : PySem.W.isClsIn K S = true) (h3 : PySem.W.typeIn K (.ref S) = some (.type "type")) (h4 : PySem.W.subIn K (.ref S) (.ref S) = some true) :
    PySem.W.exmOne K (.ref S) (.ref S) = some true := by
  have e1 : (PySem.W.subIn K (.ref S) (.type "BaseException") == some true) = true := by rw [h1] <;> rfl
  have e2 : ((PySem.W.clsIn K S).isSome && PySem.W.typeIn K (.ref S) == some (.type "type")) = true := by
    have h2' : (PySem.W.clsIn K S).isSome = true := h2
    rw [h2', h3] <;> rfl
  show (if (PySem.W.subIn K (.ref S) (.type "BaseException") == some true) = true then (if ((PySem.W.clsIn K S).isSome && PySem.W.typeIn K (.ref S) == some (.type "type")) = true then PySem.W.subIn K (.ref S) (.ref S) else none) else none) = some true
  rw [if_pos e1, if_pos e2]
  exact h4
end L3
/-! L4a: unpacked lists, own ==, __init__ that may raise, a second bag, is of bools. -/
namespace PySem
namespace UnL
open PyProof.Rows PySem.Spec
section
variable {prog : Program} {w : World} {A : Around} {E : Value → Shared → Prop} {s : Shared}
theorem draw_list {it l : Addr} {items : Array Value} (hne : l ≠ it) : ∀ (n i : Nat) (s : Shared) (Q : List Value → Shared → Prop), s.heap.IsListIter it l i → s.heap.IsList l items → i + n ≤ items.size →
    (∀ h', h'.IsListIter it l (i + n) → Heap.SameBut it s.heap h' → Q ((items.toList.drop i).take n) { s with heap := h' }) → wpAny (model prog w) A (draw (.ref it) n) Q E s
  | 0, i, s, Q, hit, _, _, hQ => by
    show wpAny _ _ (pure []) Q E s
    exact wpAny_pure (by simpa using hQ s.heap hit (Heap.SameBut.refl ..))
  | n + 1, i, s, Q, hit, ht, hle, hQ => by
    have hlt : i < items.size := by omega
    show wpAny _ _ (pyNext (.ref it) >>= _) Q E s
    refine wpAny_bind (wpAny_pyNext_list_item hit ht (x := items[i]) (by simp [hlt]) fun h₁ hit₁ hs₁ => ?_)
    refine wpAny_bind (wpAny_holding (draw_list hne n (i + 1) _ _ hit₁ (ht.extBut hs₁.extBut hne) (by omega) fun h₂ hit₂ hs₂ => wpAny_pure ?_))
    have hd : items.toList.drop i = items[i] :: items.toList.drop (i + 1) := by simp [List.drop_eq_getElem_cons, hlt]
    have := hQ h₂ (by rw [show i + (n + 1) = i + 1 + n by omega]; exact hit₂) (hs₁.trans hs₂)
    rw [hd, List.take_succ_cons] at this
    exact this
theorem unpackItems_list {l : Addr} {items : Array Value} {Q : List Value → Shared → Prop} (hh : A.handled = none) (ht : s.heap.IsList l items)
    (hQ : ∀ h', Heap.ExtBut s.heap.objs.size s.heap h' → Q items.toList { s with heap := h' }) : wpAny (model prog w) A (unpackItems (.ref l) items.size none) Q E s := by
  have hlt : l ≠ s.heap.objs.size := by obtain ⟨o, ho, _⟩ := ht; exact Nat.ne_of_lt (Heap.lt_size ho)
  unfold unpackItems
  refine wpAny_bind ?_
  · unfold notIterableAtAll
    refine wpAny_bind (wpAny_specialOf ht.typeIs F.slot_list_iter.lookup ?_)
    refine wpAny_pure ?_
    simp only [Bool.false_eq_true, if_false]
    refine wpAny_bind (wpAny_holding (wpAny_pyIter_list ht ?_))
    refine wpAny_bind (wpAny_holding (draw_list hlt items.size 0 _ _ ⟨_, Heap.get?_push_size _ rfl, rfl, rfl⟩ (ht.push _) (by omega) fun h₁ hit₁ hs₁ => ?_))
    have hall : List.take items.size (List.drop 0 items.toList) = items.toList := by
      rw [List.drop_zero]; exact List.take_of_length_le (by simp)
    rw [hall]
    rw [if_neg (by simp)]
    have ht₁ : h₁.IsList l items := (ht.push _).extBut hs₁.extBut hlt
    refine wpAny_bind (wpAny_holding (wpAny_pyNext_list_end hh hit₁ ht₁ (by simp) fun h₂ he₂ => ?_))
    simp only [Option.isSome_none, Bool.false_eq_true, if_false]
    refine wpAny_pure (hQ h₂ fun b o hb e => he₂ b o hb (hs₁.extBut b o hb (Heap.get?_push_of_some _ e)))
theorem assign_Tuple_list {env : Env} {elts : List Expr} {x1} {pos : Pos} {l : Addr} {items : Array Value} {Q : Unit → Shared → Prop} (hh : A.handled = none) (ht : s.heap.IsList l items)
    (hn : (assignEach elts env).length = items.size) (hstar : (assignEach elts env).findIdx? (·.1) = none)
    (h : ∀ h', Heap.ExtBut s.heap.objs.size s.heap h' → wpAny (model prog w) A (assignInOrder ((assignEach elts env).map (·.2)) items.toList) Q E { s with heap := h' }) :
    wpAny (model prog w) A (assign (.Tuple elts x1 pos) env (.ref l)) Q E s := by
  rw [assign_Tuple]
  refine wpAny_bind (wpAny_standAt ?_)
  unfold unpack
  rw [hn, hstar]
  exact wpAny_bind (wpAny_holding (unpackItems_list hh ht h))
end
end UnL
end PySem
namespace L3
open PySem L2
/-! ### (a, b, ..) = a tuple or a list -/
def gSeqU (K : PySem.W.Frag) (n : Nat) (t : TGs) : TG := fun v σ H Q => ∃ a xs, v = .ref a ∧ (SqT K H a xs ∨ SqL K H a xs) ∧ xs.length = n ∧ t xs σ H Q
theorem pg_seqU {X : Cx} {es : List Expr} {k : Nat} {t : TGs} {n : Nat} {pos : Pos} {K : PySem.W.Frag} (hc : X.calm = true) (h : PGs X es t) (hK : X.K = K := by rfl)
    (hn : (assignEach es X.env).length = n := by rfl) (hst : (assignEach es X.env).findIdx? (·.1) = none := by rfl) : PG X (.Tuple es k pos) (gSeqU K n t) := by
  subst hK
  refine ⟨fun pins s σ H v u Q I r hw => ?_⟩
  obtain ⟨a, xs, e1, hq, hl, hw⟩ := hw
  subst e1
  cases r
  rcases hq with hq | hq
  · obtain ⟨its, rv, ht, hz⟩ := I.tuple hq
    refine PyProof.Rows.assign_Tuple_tuple (I.ok.hd hc) ht (by simp [hn, ← hl, rv.length]) hst fun h' hx => ?_
    have I1 : Inv X pins σ H { s with heap := h' } := I.kept (t' := s.toks) fun b o e => hx b o (Nat.ne_of_lt (Heap.lt_size e)) e
    exact h.run pins _ σ H xs _ Q I1 (by simpa using rv) hw
  · obtain ⟨its, rv, ht, hz⟩ := I.list hq
    refine PySem.UnL.assign_Tuple_list (I.ok.hd hc) ht.isList (by simp [hn, ← hl, rv.length]) hst fun h' hx => ?_
    have I1 : Inv X pins σ H { s with heap := h' } := I.kept (t' := s.toks) fun b o e => hx b o (Nat.ne_of_lt (Heap.lt_size e)) e
    exact h.run pins _ σ H xs _ Q I1 (by simpa using rv) hw
theorem wg_seqU {c : Ctx} {ρ : List SD} {n : Nat} {R : ER → ER → Prop} {m : Nat} {gs : TGs} {d : D} {ds : List D} {Φ : List SD → Prop} (hs : seqD d = some ds) (hl : ds.length = m) (h : WGs c R gs ds ρ n Φ) : WG c R (gSeqU c.K m gs) d ρ n Φ := fun P L σ H v Q E r q => by
  cases d with
  | tup xs =>
    cases hs
    cases r with
    | tup hs ha => exact ⟨_, _, rfl, .inl (same_t same_hid hs), by rw [ha.length]; exact hl, h P L σ H _ Q E ha q⟩
  | lst xs =>
    cases hs
    cases r with
    | lst hs ha => exact ⟨_, _, rfl, .inr (.inl (same_rd same_hid hs)), by rw [ha.length]; exact hl, h P L σ H _ Q E ha q⟩
  | _ => cases hs
end L3
/-! ### == and != of instances by their own __eq__ -/
namespace OwnNe
open PySem PySem.Spec PyProof.Rows PySem.SeqAt
section
variable {M : Model} {prog : Program} {w : World} {A : Around} {E : Value → Shared → Prop} {s : Shared} {K : PySem.W.Frag} {x C f : Addr} {ox : Obj} {od : Option Obj} {b : Value}
theorem ifBound_objNe {args : List Value} {Q : Option Value → Shared → Prop} (X : K.In s.heap) (I : PySem.W.InstAt s.heap x ox C od) (hs : PySem.W.findIn K (.ref C) "__ne__" = some (some (.builtin "object.__ne__")))
    (h : wpAny M A (call (.builtin "object.__ne__") (.ref x :: args)) (fun v => Q (some v)) E s) : wpAny M A (callSpecialIfBound? (.ref x) "__ne__" args) Q E s := by
  simp only [callSpecialIfBound?, bindSpecialIfBound?]
  refine wpAny_holding (wpAny_bind (wpAny_bind (wpAny_bind (I.type.here ((PySem.W.looks_findIn X hs).here ?_)))))
  refine wpAny_bind (wpAny_askSetting (wpAny_ite ?_))
  have fin : wpAny M A (call (.builtin "object.__ne__") ([.ref x] ++ args) >>= fun v => pure (some v)) Q E s := wpAny_bind (wpAny_mono h (fun v s' h' => wpAny_pure h') fun _ _ h' => h')
  split
  · exact wpAny_bind (wpAny_of_eq (F.cmp_object.ne.bind _) (wpAny_pure (by exact fin)))
  · exact wpAny_tryCatch (wpAny_bind (wpAny_of_eq (F.cmp_object.ne.bind _) (wpAny_pure (by exact fin))))
theorem objNe_entry {Q : Fin → Shared → Prop} (hu : A.units < cLine)
    (hcall : wpAny (model prog w) A (callSpecialIfBound? (.ref x) "__eq__" [b]) (fun r s' => ∃ k, r = some (.bool k) ∧ Q (.done (.ret (.bool (!k)))) s') E s) :
    wpAny (model prog w) A (Builtin.«object.__ne__» ⟨[.ref x, b], []⟩) Q E s := by
  unfold Builtin.«object.__ne__»
  repeat (first
    | with_reducible refine wpAny_cRoomFor hu ?_
    | (refine wpAny_bind (m := callSpecialIfBound? (.ref x) (Str.ofString "__eq__") [b])
        (wpAny_mono hcall (fun r s' hr => by
          obtain ⟨k, rfl, hq⟩ := hr
          repeat (first | exact hq | exact wpAny_pure hq | exact wpAny_truthy_bool hq | (refine wpAny_bind (m := truthy (.bool _)) (wpAny_truthy_bool ?_)) | wp_step)) fun _ _ e => e))
    | wp_step)
theorem ne_K {y : Addr} {Q : Value → Shared → Prop} (hu : A.units + 1 < cLine) (X : K.In s.heap) (I : PySem.W.InstAt s.heap x ox C od) (hb : PySem.W.Looks (model prog w) s.heap (typeOf (.ref y)) (.ref C)) (hm : PySem.W.mroIn K C (.type "object") = some true)
    (hs : PySem.W.findIn K (.ref C) "__ne__" = some (some (.builtin "object.__ne__"))) (he : PySem.W.findIn K (.ref C) "__eq__" = some (some (.ref f))) (hf : PySem.W.isFn K (.ref f) = true)
    (h : wpAny (model prog w) A.in1 (call (.ref f) [.ref x, .ref y]) (fun v s' => ∃ k, v = .bool k ∧ Q (.bool (!k)) s') E s) : wpAny (model prog w) A (richCompare .NotEq (.ref x) (.ref y)) Q E s := by
  have one : wpAny (model prog w) A (tryCompare (.ref x) "__ne__" (.ref y)) (fun r s' => ∃ v, r = some v ∧ Q v s') E s := by
    unfold tryCompare
    refine wpAny_bind (ifBound_objNe X I hs (wpAny_call (codeAny_call_builtin F.cmp_object.ne.plain F.cmpEntry_ne (PySem.W.check_slot F.cmpKind_ne F.cmpSplit_ne (I.type.andThen (PySem.W.looks_mroIn X hm)) (F.cmpArgs_ne _ _)
      (objNe_entry (A := A.in1) hu (PySem.W.ifBound_K X I he hf (wpAny_mono h (fun v s' hv => ?_) fun _ _ e => e)))))))
    obtain ⟨k, rfl, hq⟩ := hv
    exact ⟨k, rfl, wpAny_pure ⟨_, rfl, hq⟩⟩
  unfold richCompare
  simp only [oneThing_ref]
  refine wpAny_holding (wpAny_bind (wpAny_cRoomFor (by omega) ?_))
  refine wpAny_bind (I.type.here (wpAny_bind (hb.here ?_)))
  rw [cmpInfo_NotEq]
  dsimp only
  rw [show (Value.ref C != Value.ref C) = false from by simp]
  simp only [Bool.false_eq_true, if_false]
  refine wpAny_bind (wpAny_pure ?_)
  simp only [Bool.false_eq_true, if_false]
  refine wpAny_bind (wpAny_mono one (fun r s' z => ?_) fun _ _ e => e)
  obtain ⟨v, rfl, hq⟩ := z
  exact wpAny_pure hq
end
end OwnNe
namespace L3
open PySem L2
section
variable {X : Cx} {CX : CXT} {n : Nat} {C f : Addr} {fd : FuncData} {ps : List Str} {sp : Sp} {E : XK} {K : PySem.W.Frag}
/-- what the text says of a class with its own == -/
structure OwnEqT (K : PySem.W.Frag) (C f : Addr) : Prop where
  eq : PySem.W.findIn K (.ref C) "__eq__" = some (some (.ref f))
  fn : PySem.W.isFn K (.ref f) = true
  ne : PySem.W.findIn K (.ref C) "__ne__" = some (some (.builtin "object.__ne__"))
  mro : PySem.W.mroIn K C (.type "object") = some true
/-- x == y (neg: x != y), both instances of the class at C -/
def rOwn (C : Addr) (sp : Sp) (E : XK) (neg : Bool) : R2 := fun x y H Q => ∃ a b dx dy fs gs, x = .ref a ∧ y = .ref b ∧ H a = some (.ins C dx fs) ∧ H b = some (.ins C dy gs) ∧
  sp [.ref a, .ref b] H (fun v H' => ∃ k, v = .bl k ∧ Q (.bl (if neg then !k else k)) H') E
theorem own_run {A : Around} {pins : List (Addr × Obj)} {σ : L2.St} {H : Hp} {s : Shared} {a b : Addr} {Q : VK} (F : FnOk X.prog X.w X.K X.mg X.base CX n f fd ps sp) (hr : Room n A) (hfr : A.frames = X.A.frames) (hb : Binds X.K fd ps []) (hx : Passes CX X E) (I : Inv X pins σ H s) (h : sp [.ref a, .ref b] H Q E) :
    wpAny (model X.prog X.w) A (call (.ref f) [.ref a, .ref b]) (EP X pins σ Q) X.xe s := by
  have e0 : Env0 X.prog X.w X.K X.mg X.base A X.stack s H := by
    have e := I.env0
    exact ⟨by rw [hfr]; exact e.frames, e.mod, e.bs, e.bsz, e.funs, e.frf, e.hok, e.bare⟩
  have hl := F.len _ _ _ _ h
  have r2 : Vals [V.ref a, V.ref b] [Value.ref a, Value.ref b] := .cons rfl (.cons rfl .nil)
  refine wpAny_call (codeAny_mono (F.run A X.stack s H ⟨[.ref a, .ref b], []⟩ [.ref a, .ref b] [.ref a, .ref b] _ E hr e0 (by
    have := hb s [.ref a, .ref b] I.kIn (by simpa using hl)
    simpa using this) r2 h) fun r s' hq => ?_)
  cases r with
  | error e => exact hx pins σ H s e s' I hq
  | ok fl =>
    cases fl with
    | ret w => exact I.after hq
    | next => exact False.elim hq
    | brk => exact False.elim hq
    | cont => exact False.elim hq
theorem op_ownEq (F : FnOk X.prog X.w X.K X.mg X.base CX n f fd ps sp) (T : OwnEqT X.K C f) (hr : Room n X.A) (hb : Binds X.K fd ps []) (hx : Passes CX X E) : OpR X (compareOp .Eq) (rOwn C sp E false) := by
  intro pins s σ H x y v u Q I rx ry hq
  obtain ⟨a, b, dx, dy, fs, gs, rfl, rfl, ha, hb', h⟩ := hq
  cases rx
  cases ry
  obtain ⟨mA, J, _⟩ := ins_get I.hok ha
  obtain ⟨mB, J', _⟩ := ins_get I.hok hb'
  obtain ⟨od, J, _⟩ := J.look
  obtain ⟨od', J', _⟩ := J'.look
  obtain ⟨m, hF⟩ := I.fr
  show wpAny (model X.prog X.w) X.A (richCompare .Eq (.ref a) (.ref b)) (EP X pins σ Q) X.xe s
  refine PySem.W.cmp_K (op := .Eq) (tb := .ref C) hr.units0 hF I.ok.mod.kin J J'.type (by simp [PySem.W.notFirst]) T.eq T.fn (wpAny_mono (own_run F hr rfl hb hx I h) (fun r s' z => ?_) fun _ _ e => e)
  obtain ⟨v, H', I', rv, k, ek, q⟩ := z
  subst ek
  cases rv
  exact ⟨.bl k, H', I', rfl, q⟩
theorem op_ownNe (F : FnOk X.prog X.w X.K X.mg X.base CX n f fd ps sp) (T : OwnEqT X.K C f) (hr : Room (n + 1) X.A) (hb : Binds X.K fd ps []) (hx : Passes CX X E) : OpR X (compareOp .NotEq) (rOwn C sp E true) := by
  intro pins s σ H x y v u Q I rx ry hq
  obtain ⟨a, b, dx, dy, fs, gs, rfl, rfl, ha, hb', h⟩ := hq
  cases rx
  cases ry
  obtain ⟨mA, J, _⟩ := ins_get I.hok ha
  obtain ⟨mB, J', _⟩ := ins_get I.hok hb'
  obtain ⟨od, J, _⟩ := J.look
  obtain ⟨od', J', _⟩ := J'.look
  show wpAny (model X.prog X.w) X.A (richCompare .NotEq (.ref a) (.ref b)) (EP X pins σ Q) X.xe s
  refine OwnNe.ne_K (by have := hr.un; omega) I.kIn J J'.type T.mro T.ne T.eq T.fn (wpAny_mono (own_run F hr.in1 rfl hb hx I h) (fun r s' z => ?_) fun _ _ e => e)
  obtain ⟨v, H', I', rv, k, ek, q⟩ := z
  subst ek
  cases rv
  exact ⟨k, rfl, .bl (!k), H', I', rfl, q⟩
end
section
variable {K : PySem.W.Frag} {C : Addr} {S : L3.Spec} {E : XK} {neg : Bool} {Φ : D → Prop}
theorem r2_own {ks ls : List (Str × D)} (h : S none 0 [.obj C ks, .obj C ls] fun _ r => ∃ b, r = .bl b ∧ Φ (.bl (if neg then !b else b))) : R2D K (rOwn C (spD K S) E neg) (.obj C ks) (.obj C ls) Φ := fun O H x y Q rx ry no q => by
  cases rx with
  | obj h1 f1 =>
    cases ry with
    | obj h2 f2 =>
      refine ⟨_, _, _, _, _, _, rfl, rfl, (hid_some.mp h1).2, (hid_some.mp h2).2, O, none, 0, _, _, (fun b q e => nomatch e), (fun o ho e => no o e ho), .cons (.obj h1 f1) (.cons (.obj h2 f2) .nil), h, fun v d n' H' s j r ⟨b, e, k⟩ => ?_⟩
      subst e
      cases r
      have s' : Same H H' := by
        have z : Same (hid [] H) (hid [] H') := s
        rw [hid_nil, hid_nil] at z
        exact z
      exact ⟨b, rfl, q _ _ H' s' (.bl _) k⟩
theorem r2_isB {a b : Bool} (k : Φ (.bl (decide (a = b)))) : R2D K L2.rIsB (.bl a) (.bl b) Φ := fun O H x y Q rx ry _ q => by
  cases rx; cases ry
  exact ⟨a, b, rfl, rfl, q _ _ H (Same.refl _) (.bl _) k⟩
end
/-! ### makes and methods where what is raised is wished for at the caller's slots -/
def tMakeSD (C : Addr) (sp : Sp) (dvs : List V) (E : L2.St → XK) (t : TA) : TE := fun σ H Q => t σ H fun vs H1 => ∀ x dx, H1 x = none → H1 dx = none → dx ≠ x →
  sp (.ref x :: (vs ++ dvs)) (upd (upd H1 dx (.own x)) x (.ins C dx [])) (fun v H2 => v = .non ∧ Q (.ref x) H2) (E σ)
def tMethSD (C : Addr) (m : Str) (sp : Sp) (dvs : List V) (E : L2.St → XK) (ta : TE) (t : TA) : TE := fun σ H Q => ta σ H fun x H1 => ∃ a dx fs, x = .ref a ∧ H1 a = some (.ins C dx fs) ∧ fs.lookup m = none ∧
  t σ H1 fun vs H2 => sp (x :: (vs ++ dvs)) H2 Q (E σ)
section
open PyProof.Rows PySem.Spec
variable {X : Cx} {CX : CXT} {k : Nat} {C f : Addr} {fd : FuncData} {ps : List Str} {sp : Sp} {dvs : List V} {ds : List Value} {E : L2.St → XK} {x m : Str} {p pos apos : Pos} {o e : Expr} {es : List Expr} {t : TA} {ta : TE} {pl : Sem Bool}
/-- what goes out of __init__ is wished for where the instance stands by -/
def PassesMk (CX : CXT) (X : Cx) (σ : L2.St) (E : XK) : Prop := PassesAt CX X σ E
theorem pe_makeSD (M : Mk X.K C f) (F : FnOk X.prog X.w X.K X.mg X.base CX k f fd ps sp) (hr : Room (k + 1) X.A) (hg : Gl X x) (hm : X.mg x = some (.ref C)) (hb : Binds X.K fd ps ds) (hd : Vals dvs ds) (hx : ∀ σ, PassesAt CX X σ (E σ))
    (ha : PA X (e :: es) t) (hdb : (x == ("__debug__" : Str)) = false := by decide) (he : starEach (e :: es) X.env = (false, eval e X.env) :: starEach es X.env := by rfl) (hpl : (backTo pos (starEach es X.env)).any (·.1) = false := by rfl) :
    PE X (.Call (.Name x p) (e :: es) [] pos) (tMakeSD C sp dvs E t) := by
  refine ⟨fun pins s σ H Q I h => ?_⟩
  refine wpAny_Call_Name_kw (ld_glob I hg hm ?_ hdb)
  refine PySem.W.callWith_K (h₀ := X.base) I.ok.mod.kin M.kp (thn (ha.run pos pins s σ H _ I h) fun us s1 ⟨vs, H1, I1, r, q⟩ => ⟨I1.kIn, ?_⟩) he hpl
  have hq := q (s1.heap.objs.size + 1) s1.heap.objs.size (I1.hok.fresh (Nat.le_succ _)) (I1.hok.fresh (Nat.le_refl _)) (Nat.ne_of_lt (Nat.lt_succ_self _))
  have I2 := Inv.made (C := C) I1
  have r2 : Vals (V.ref (s1.heap.objs.size + 1) :: (vs ++ dvs)) (Value.ref (s1.heap.objs.size + 1) :: (us ++ ds)) := .cons rfl (r.append hd)
  have hl : (Value.ref (s1.heap.objs.size + 1) :: us ++ ds).length = ps.length := by
    have e := r2.length
    rw [F.len _ _ _ _ hq] at e
    exact e.symm
  show wpAny _ _ (call (.ref C) us) _ _ _
  refine wpAny_call (make_map (f := f) I1.kIn M.makes M.init (beq_iff_eq.mp M.fn) (codeAny_mono (F.run _ X.stack _ _ ⟨Value.ref (s1.heap.objs.size + 1) :: us, []⟩ (Value.ref (s1.heap.objs.size + 1) :: (us ++ ds)) _ _ (E σ) (hr.make C us [])
    (I2.env0.make C us []) (hb _ (Value.ref (s1.heap.objs.size + 1) :: us) I2.kIn hl) r2 hq) fun r s' hq' => ?_))
  cases r with
  | error e => exact hx σ pins _ _ e s' I2 hq'
  | ok fl =>
    cases fl with
    | ret u =>
      obtain ⟨v, H', I3, rv, ev, q3⟩ := I2.after hq'
      subst ev
      exact ⟨rv, ⟨V.ref (s1.heap.objs.size + 1), H', I3, rfl, q3⟩⟩
    | next => exact False.elim hq'
    | brk => exact False.elim hq'
    | cont => exact False.elim hq'
theorem pe_methSD (he : PE X o ta) (c : Cls X.K C) (hm : Meth X.K C m f) (F : FnOk X.prog X.w X.K X.mg X.base CX k f fd ps sp) (hr : Room k X.A) (hb : Binds X.K fd ps ds) (hd : Vals dvs ds) (hx : ∀ σ, PassesAt CX X σ (E σ)) (ha : PA X (e :: es) t)
    (hst : starEach (e :: es) X.env = (false, eval e X.env) :: starEach es X.env := by rfl) (hpl : (backTo pos (starEach es X.env)).any (·.1) = false := by rfl)
    (ht : eval (.Call (.Attribute o m apos) (e :: es) [] pos) X.env = (do
      let ov ← eval o X.env
      standAt apos.atName
      let (f, first) ← holding [ov] (getMethod ov m pl)
      callWith pos f first (backTo pos (starEach (e :: es) X.env)) (backToKw pos (keywordEach [] X.env))) := by rfl) :
    PE X (.Call (.Attribute o m apos) (e :: es) [] pos) (tMethSD C m sp dvs E ta t) := by
  refine ⟨fun pins s σ H Q I h => ?_⟩
  refine PySem.W.methodCall_KW (pl := pl) (thn (he.run pins s σ H _ I h) fun u s1 ⟨x, H1, I1, rx, a, dx, fs, ex, ea, l, q⟩ => ?_) ht
  subst ex
  obtain rfl : u = Value.ref a := rx
  refine getmeth_ok I1 ea c hm l ?_
  refine PySem.W.callWith_K (first := [.ref a]) (h₀ := X.base) I.ok.mod.kin hm.kp (thn (ha.run pos pins s1 σ H1 _ I1 q) fun us s2 ⟨vs, H2, I2, r, q2⟩ => ⟨I2.kIn, ?_⟩) hst hpl
  exact run_fnSD (us := .ref a :: us) (vs := .ref a :: vs) F hr hb hd (hx σ) I2 (.cons rfl r) q2
end
end L3
/-! L4b: __init__ that may raise, made; a second bag; wide powers. -/
namespace L3
open PySem L2
abbrev SpecIX := Option (Addr × Addr) → Nat → List D → (Nat → List (Str × D) → Prop) → (Nat → Addr → List (Str × D) → Prop) → Prop
def spIX (K : PySem.W.Frag) (C : Addr) (S : SpecIX) : Sp := fun vs H Q E => ∃ (O : List Addr) (bag : Option (Addr × Addr)) (n : Nat) (ds : List D) (Φ : Nat → List (Str × D) → Prop) (Ξ : Nat → Addr → List (Str × D) → Prop) (p dx : Addr) (ws : List V),
  vs = .ref p :: ws ∧ H p = some (.ins C dx []) ∧ p ∉ O ∧ (∀ b q, bag = some (b, q) → BagOk b q n H ∧ b ∈ O ∧ q ∈ O ∧ q ≠ b) ∧ (∀ o ∈ O, H o ≠ none) ∧ RpAll K (hid (p :: O) H) ws ds ∧ S bag n ds Φ Ξ ∧
  (∀ fs ks n' H', Same (hid (p :: bagB bag) H) (hid (p :: bagB bag) H') → (∀ b q, bag = some (b, q) → BagOk b q n' H') → H' p = some (.ins C dx fs) → RpFs K (hid (p :: O) H') fs ks → Φ n' ks → Q .non H') ∧
  ∀ C' ex fs ks n' H', Same (hid (p :: bagB bag) H) (hid (p :: bagB bag) H') → (∀ b q, bag = some (b, q) → BagOk b q n' H') → H' ex = some (.xd fs) → ex ∉ p :: O → RpFs K (hid (p :: O) H') fs ks → Ξ n' C' ks → E (.ref C') (some ex) H'
section
variable {P : Program} {w : World} {K : PySem.W.Frag} {mg : Str → Option Value} {base : Heap} {O : List Addr} {bag : Option (Addr × Addr)} {p C dx : Addr} {H00 : Hp} {ρ : List SD} {n : Nat} {ks : List (Str × D)} {Φ : Nat → List (Str × D) → Prop} {te : TE} {ts us : TS} {f : Str}
/-- as WN, at heaps that are behind H00 -/
def WNX (P : Program) (w : World) (K : PySem.W.Frag) (O : List Addr) (bag : Option (Addr × Addr)) (p C dx : Addr) (H00 : Hp) (ts : TS) (ρ : List SD) (n : Nat) (ks : List (Str × D)) (Φ : Nat → List (Str × D) → Prop) : Prop :=
  ∀ (H : Hp) (σ : List (Option V)) (fs : List (Str × V)) (Dn : Ends), Same (hid (p :: bagB bag) H00) (hid (p :: bagB bag) H) → H p = some (.ins C dx fs) → p ∉ O → RpFs K (hid (p :: O) H) fs ks → Env ⟨P, w, K, p :: O, bag, H⟩ (fun _ => none) [] n H σ ρ →
  (∀ σ' fs' ks' n' H', Same (hid (p :: bagB bag) H) (hid (p :: bagB bag) H') → (∀ b q, bag = some (b, q) → BagOk b q n' H') → H' p = some (.ins C dx fs') → RpFs K (hid (p :: O) H') fs' ks' → Φ n' ks' → Dn.nx σ' H') → ts Dn σ H
theorem wnx_of (h : WN P w K O bag p C dx ts ρ n ks Φ) : WNX P w K O bag p C dx H00 ts ρ n ks Φ := fun H σ fs Dn _ hp pO hf E q => h H σ fs Dn hp pO hf E q
theorem wnx_pre (h : ∀ H0, Same (hid (p :: bagB bag) H00) (hid (p :: bagB bag) H0) → WS ⟨P, w, K, p :: O, bag, H0⟩ ts ρ n { nx := fun n1 ρ1 => flat ρ1 = true ∧ WNX P w K O bag p C dx H00 us ρ1 n1 ks Φ, rt := fun _ _ => False }) : WNX P w K O bag p C dx H00 (tSeq ts us) ρ n ks Φ := fun H σ fs Dn h00 hp pO hf E q => by
  refine h H h00 (fun _ => none) [] σ H { Dn with nx := us Dn } E { nx := fun L n1 H1 σ1 ρ1 E1 ⟨hfl, hn⟩ => ?_, rt := fun _ _ _ _ _ _ _ h => h.elim, bk := fun _ _ _ _ _ _ h => h.elim, ct := fun _ _ _ _ _ _ h => h.elim }
  have pB : p ∉ bagB bag := fun z => by
    obtain ⟨q, hq⟩ := (mem_B (c := ⟨P, w, K, p :: O, bag, H⟩)).mp z
    obtain ⟨xs, hx⟩ := (E.bag p q hq).lst
    rw [hp] at hx; cases hx
  have hp1 : H1 p = some (.ins C dx fs) := (hid_some.mp (E1.base p _ (hid_some.mpr ⟨pB, hp⟩))).2
  have bO : ∀ a, a ∈ bagB bag → a ∈ p :: O := fun a ha => E.inO (show a ∈ (⟨P, w, K, p :: O, bag, H⟩ : Ctx).B from ha)
  have s0 : Same (hid (p :: O) H) (hid (p :: O) H1) := same_hid_more bO E1.base
  have sp : Same (hid (p :: bagB bag) H) (hid (p :: bagB bag) H1) := same_hid_more (fun a ha => List.mem_cons_of_mem _ ha) E1.base
  obtain ⟨Ls, sl, sb⟩ := E1.slots
  have eL := sl.flat hfl
  subst eL
  refine hn H1 σ1 fs Dn (h00.trans sp) hp1 pO (hf.mono s0) ?_ fun σ' fs' ks' n' H' s' b' hp' hf' kk' => q σ' fs' ks' n' H' (sp.trans s') b' hp' hf' kk'
  exact { nd := List.nodup_nil, fresh := (fun l hl => nomatch hl), slots := ⟨[], sl.move (fun l hl => nomatch hl) (same_hid_sub fun a ha => List.mem_append_right _ ha), List.Sublist.refl _⟩, lst := (fun l hl => nomatch hl), bag := E1.bag, base := Same.refl _,
          pers := (fun _ _ e => nomatch e), bO := E1.bO, al := E1.al }
/-- what is wished of an error, at heaps behind H00 -/
def XAI (P : Program) (w : World) (K : PySem.W.Frag) (O : List Addr) (bag : Option (Addr × Addr)) (p : Addr) (H00 : Hp) (W : WX) (Ξ : Er) : Prop := ∀ H0, Same (hid (p :: bagB bag) H00) (hid (p :: bagB bag) H0) → XA ⟨P, w, K, p :: O, bag, H0⟩ W Ξ
theorem init_go {N : List Str} {S : SpecIX} {vs : List V} {H : Hp} {Q : VK} {E : XK} {t : TS} (h : spIX K C S vs H Q E)
    (W : ∀ (O : List Addr) (bag : Option (Addr × Addr)) (n : Nat) (ds : List D) (Φ : Nat → List (Str × D) → Prop) (Ξ : Nat → Addr → List (Str × D) → Prop) (p dx : Addr), S bag n ds Φ Ξ → XAI P w K O bag p H (fun cls d _ H' => E cls d H') (fun n' _ C ks => Ξ n' C ks) → WNX P w K O bag p C dx H t (rho N (.adr p :: ds)) n [] Φ) :
    t { nx := fun _ H' => Q .non H', rt := Q } (L2.start N vs) H := by
  obtain ⟨O, bag, n, ds, Φ, Ξ, p, dx, ws, rfl, hp, pO, hb, hO, r, hS, q, qx⟩ := h
  have hx : XAI P w K O bag p H (fun cls d _ H' => E cls d H') (fun n' _ C ks => Ξ n' C ks) := fun H0 s0 P' L n' H' σ ρ C' ex fs ks E' hd hn hf kk => by
    refine qx C' ex fs ks n' H' (s0.trans (same_hid_more (fun a ha => List.mem_cons_of_mem _ ha) E'.base)) (fun b q e => E'.bag b q e) hd (fun z => hn (List.mem_append_right _ z)) (hf.mono (same_hid_sub fun a ha => List.mem_append_right _ ha)) kk
  refine W O bag n ds Φ Ξ p dx hS hx H _ [] _ (Same.refl _) hp pO .nil ?_ fun σ' fs' ks' n' H' s' b' hp' hf' kk' => q fs' ks' n' H' s' b' hp' hf' kk'
  have r' : RpAll K (hid (p :: O) H) (.ref p :: ws) (.adr p :: ds) := .cons (.adr p) r
  have e : L2.start N (.ref p :: ws) = (.ref p :: ws).map some ++ List.replicate (N.length - (D.adr p :: ds).length) none := by unfold L2.start; rw [r'.length]
  exact { nd := List.nodup_nil, fresh := (fun l hl => nomatch hl), slots := ⟨[], by rw [e]; exact slots_start r', List.Sublist.refl _⟩, lst := (fun l hl => nomatch hl), bag := fun b q e => (hb b q e).1, base := Same.refl _,
          pers := (fun _ _ e => nomatch e), bO := fun b q e => ⟨List.mem_cons_of_mem _ (hb b q e).2.1, List.mem_cons_of_mem _ (hb b q e).2.2.1, (hb b q e).2.2.2⟩,
          al := fun o ho => by
            rcases List.mem_cons.mp ho with z | z
            · rw [z, hp]; exact fun z => nomatch z
            · exact hO o z }
theorem spIX_len {S : SpecIX} {ps : List Str} {vs : List V} {H : Hp} {Q : VK} {E : XK} (len : ∀ bag n ds Φ Ξ, S bag n ds Φ Ξ → ds.length + 1 = ps.length) (h : spIX K C S vs H Q E) : vs.length = ps.length := by
  obtain ⟨O, bag, n, ds, Φ, Ξ, p, dx, ws, rfl, _, _, _, _, r, hS, _⟩ := h
  rw [List.length_cons, r.length]; exact len bag n ds Φ Ξ hS
/-- THE RULES for an __init__ that may raise -/
theorem fn_IX {x qual : Str} {st : Stmt} {fa : Addr} {fd : FuncData} {N ps : List Str} {k : Nat} {S : SpecIX} (F : Fun K x qual st fa fd) (sc : FnScope N ps (defScope st))
    (len : ∀ bag n ds Φ Ξ, S bag n ds Φ Ξ → ds.length + 1 = ps.length)
    (body : ∀ (cdv : Value) (A : Around) (outer : List PySem.Env) (s : Shared) (H : Hp) (E : XK), Room k (A.deeper (PyProof.Rows.envOfC qual (defScope st) s.heap.objs.size fa cdv)) →
      ∃ t, PSs (cxOf (L2.CX P w) P w K mg base N qual (defScope st) fa cdv A outer s H E) (defBody st) t ∧ ∀ (O : List Addr) (bag : Option (Addr × Addr)) (n : Nat) (ds : List D) (Φ : Nat → List (Str × D) → Prop) (Ξ : Nat → Addr → List (Str × D) → Prop) (p dx : Addr), S bag n ds Φ Ξ →
        XAI P w K O bag p H (fun cls d _ H' => E cls d H') (fun n' _ C ks => Ξ n' C ks) → WNX P w K O bag p C dx H t (rho N (.adr p :: ds)) n [] Φ) :
    FnOk P w K mg base (L2.CX P w) (k + 1) fa fd ps (spIX K C S) := by
  refine F.okX sc (fun vs H Q E h => spIX_len len h) (fun cdv A outer s H vs Q E hr h => ?_)
  obtain ⟨t, ht, W⟩ := body cdv A outer s H E hr
  exact ⟨t, ht, init_go h W⟩
theorem fn_IDX {x qual : Str} {st : Stmt} {fa : Addr} {fd : FuncData} {N ps : List Str} {k : Nat} {S : SpecIX} {dvs : List V} (F : FunD K x qual (defArgs st) (defBody st) (defScope st) dvs [] fa fd) (sc : FnScope N ps (defScope st))
    (len : ∀ bag n ds Φ Ξ, S bag n ds Φ Ξ → ds.length + 1 = ps.length)
    (body : ∀ (cdv : Value) (A : Around) (outer : List PySem.Env) (s : Shared) (H : Hp) (E : XK), Room k (A.deeper (PyProof.Rows.envOfC qual (defScope st) s.heap.objs.size fa cdv)) →
      ∃ t, PSs (cxOf (L2.CX P w) P w K mg base N qual (defScope st) fa cdv A outer s H E) (defBody st) t ∧ ∀ (O : List Addr) (bag : Option (Addr × Addr)) (n : Nat) (ds : List D) (Φ : Nat → List (Str × D) → Prop) (Ξ : Nat → Addr → List (Str × D) → Prop) (p dx : Addr), S bag n ds Φ Ξ →
        XAI P w K O bag p H (fun cls d _ H' => E cls d H') (fun n' _ C ks => Ξ n' C ks) → WNX P w K O bag p C dx H t (rho N (.adr p :: ds)) n [] Φ) :
    FnOk P w K mg base (L2.CX P w) (k + 1) fa fd ps (spIX K C S) := by
  refine F.ok sc (fun vs H Q E h => spIX_len len h) (fun cdv A outer s H vs Q E hr h => ?_)
  obtain ⟨t, ht, W⟩ := body cdv A outer s H E hr
  exact ⟨t, ht, init_go h W⟩
end
section
variable {c : Ctx} {ρ : List SD} {n : Nat} {te to : TE} {as : TA} {Φ : Nat → D → Prop} {W : WX} {Ξ : Er}
theorem make_go {C : Addr} {S : SpecIX} {dvs : List V} {dds : List D} (hw : XA c W Ξ) (hd : ∀ H, RpAll c.K H dvs dds) {P : Hp} {L : List Addr} {σ : L2.St} {H : Hp} {Q : VK} {E' : XK} (hE : ∀ cls d H', W cls d σ H' → E' cls d H') {vs : List V} {ds : List D} (E1 : Env c P L n H σ ρ)
    (r1 : RpAll c.K (hid (L ++ c.O) H) vs ds) (k : S c.bag n (ds ++ dds) (fun n2 ks => Φ n2 (.obj C ks)) fun n2 C' ks => Ξ n2 ρ C' ks)
    (q : ∀ v d n' H', Same (hid c.B H) (hid c.B H') → c.J n' H' → Rp c.K (hid (L ++ c.O) H') v d → Φ n' d → Q v H') : ∀ x dx, H x = none → H dx = none → dx ≠ x →
    spIX c.K C S (.ref x :: (vs ++ dvs)) (upd (upd H dx (.own x)) x (.ins C dx [])) (fun v H2 => v = .non ∧ Q (.ref x) H2) E' := by
  intro x dx nx ndx nex
  have xO : x ∉ L ++ c.O := E1.noO x nx
  have keep : ∀ a o, H a = some o → (upd (upd H dx (.own x)) x (.ins C dx [])) a = some o := fun a o e => by
    rw [upd_ne (fun z : a = x => by rw [z, nx] at e; cases e), upd_ne (fun z : a = dx => by rw [z, ndx] at e; cases e)]
    exact e
  have sm : Same (hid (L ++ c.O) H) (hid (x :: (L ++ c.O)) (upd (upd H dx (.own x)) x (.ins C dx []))) := fun a o e => by
    obtain ⟨e1, e2⟩ := hid_some.mp e
    refine hid_some.mpr ⟨fun z => ?_, keep a o e2⟩
    rcases List.mem_cons.mp z with z | z
    · rw [z, nx] at e2; cases e2
    · exact e1 z
  have back : ∀ H3, Same (hid (x :: bagB c.bag) (upd (upd H dx (.own x)) x (.ins C dx []))) (hid (x :: bagB c.bag) H3) → Same (hid c.B H) (hid c.B H3) := fun H3 s3 a o e => by
    obtain ⟨e1, e2⟩ := hid_some.mp e
    have ne : a ≠ x := fun z => by rw [z, nx] at e2; cases e2
    have z := s3 a o (hid_some.mpr ⟨fun z => by
      rcases List.mem_cons.mp z with z | z
      · exact ne z
      · exact e1 z, keep a o e2⟩)
    exact hid_some.mpr ⟨e1, (hid_some.mp z).2⟩
  refine ⟨L ++ c.O, c.bag, n, ds ++ dds, _, _, x, dx, vs ++ dvs, rfl, upd_same, xO, fun b q hb => ⟨(E1.bag b q hb).move (fun o e => keep b o e) (fun o e => keep q o e), List.mem_append_right _ (E1.bO b q hb).1, List.mem_append_right _ (E1.bO b q hb).2.1, (E1.bO b q hb).2.2⟩, fun o ho => ?_, (r1.mono sm).append (hd _), k, fun fs ks n2 H3 s3 j3 hx hf kk => ⟨rfl, ?_⟩, fun C' ex fs ks n2 H3 s3 j3 hx hn hf kk => ?_⟩
  · cases e : H o with
    | none => exact absurd e (E1.alLO o ho)
    | some u => rw [keep o u e]; exact fun z => nomatch z
  · exact q (.ref x) (.obj C ks) n2 H3 (back H3 s3) j3 (.obj (dx := dx) (hid_some.mpr ⟨xO, hx⟩) (hf.mono (same_hid_sub fun a ha => List.mem_cons_of_mem _ ha))) kk
  · exact hE _ _ _ (hw P L n2 H3 σ ρ C' ex fs ks (E1.step (back H3 s3) j3) hx (fun z => hn (List.mem_cons_of_mem _ z)) (hf.mono (same_hid_sub fun a ha => List.mem_cons_of_mem _ ha)) kk)
theorem we_makeSD {C : Addr} {S : SpecIX} {dvs : List V} {dds : List D} (hw : XA c W Ξ) (hd : ∀ H, RpAll c.K H dvs dds) (h : WA c as ρ n fun n1 ds => S c.bag n1 (ds ++ dds) (fun n2 ks => Φ n2 (.obj C ks)) fun n2 C' ks => Ξ n2 ρ C' ks) :
    WE c (tMakeSD C (spIX c.K C S) dvs (fun σ => L2.WE W σ) as) ρ n Φ := fun P L σ H Q E q => by
  refine h P L σ H _ E fun vs ds n1 H1 s1 j1 r1 k => ?_
  exact make_go hw hd (fun _ _ _ z => z) (E.step s1 j1) r1 k fun v d n' H' s' j' r' kk => q v d n' H' (s1.trans s') j' r' kk
theorem we_makeX {C : Addr} {S : SpecIX} {dvs : List V} {dds : List D} {XE : XK} (hw : XA c (fun cls d _ H => XE cls d H) Ξ) (hd : ∀ H, RpAll c.K H dvs dds) (h : WA c as ρ n fun n1 ds => S c.bag n1 (ds ++ dds) (fun n2 ks => Φ n2 (.obj C ks)) fun n2 C' ks => Ξ n2 ρ C' ks) :
    WE c (tMake C (spIX c.K C S) dvs XE as) ρ n Φ := fun P L σ H Q E q => by
  refine h P L σ H _ E fun vs ds n1 H1 s1 j1 r1 k => ?_
  exact make_go hw hd (fun _ _ _ z => z) (E.step s1 j1) r1 k fun v d n' H' s' j' r' kk => q v d n' H' (s1.trans s') j' r' kk
theorem we_methSD {C : Addr} {m : Str} {S : SpecX} {dvs : List V} {dds : List D} (hw : XA c W Ξ) (hd : ∀ H, RpAll c.K H dvs dds)
    (h : WE c to ρ n fun n1 x => ∃ ds, x = .obj C ds ∧ ds.lookup m = none ∧ WA c as ρ n1 fun n2 es => S c.bag n2 (.obj C ds :: (es ++ dds)) Φ fun n3 C ks => Ξ n3 ρ C ks) : WE c (tMethSD C m (spDX c.K S) dvs (fun σ => L2.WE W σ) to as) ρ n Φ := fun P L σ H Q E q => by
  refine h P L σ H _ E fun x d n1 H1 s1 j1 r1 ⟨ds, e, hn, ha⟩ => ?_
  subst e
  have E1 := E.step s1 j1
  cases r1 with
  | obj h1 hf =>
    refine ⟨_, _, _, rfl, (hid_some.mp h1).2, hf.none hn, ?_⟩
    refine ha P L σ H1 _ E1 fun vs es n2 H2 s2 j2 r2 k => ?_
    have E2 := E1.step s2 j2
    refine ⟨L ++ c.O, c.bag, n2, _, Φ, _, fun b q hb => ⟨j2 b q hb, List.mem_append_right _ (E.bO b q hb).1, List.mem_append_right _ (E.bO b q hb).2.1, (E.bO b q hb).2.2⟩, E2.alLO, .cons ((Rp.obj h1 hf).mono (E1.sameLO s2)) (r2.append (hd _)), k,
      fun v d n3 H3 s3 j3 r3 k3 => q v d n3 H3 ((s1.trans s2).trans s3) j3 r3 k3, fun C' dx fs ks n3 H3 s3 j3 hx hn hf kk => ?_⟩
    exact hw P L n3 H3 σ ρ C' dx fs ks (E2.step s3 j3) hx hn hf kk
end
/-! ### a second bag -/
/-- a bag made of a bag -/
def spNewBag : Sp := fun vs H Q _ => ∃ (b q : Addr) (n : Nat), vs = [.ref b] ∧ BagOk b q n H ∧ ∀ b2 q2 H', Same H H' → H b2 = none → H q2 = none → q2 ≠ b2 → BagOk b2 q2 0 H' → Q (.ref b2) H'
section
variable {c : Ctx} {ρ : List SD} {n i : Nat} {Φ : Nat → D → Prop} {b q : Addr} {S : L3.Spec} {XE XE' : XK}
theorem we_bag2 (hb : c.bag = some (b, q)) (hi : ρ[i]? = some (.val (.adr b))) (h : ∀ b2 q2, S (some (b2, q2)) 0 [.adr b2] fun _ d => ∃ k, d = .bl k ∧ Φ n (.bl k)) :
    WE c (tCall (spD c.K S) [] XE (tCons (tCall spNewBag [] XE' (tCons (tVar i) tNil)) tNil)) ρ n Φ := fun P L σ H Q E q0 => by
  obtain ⟨Ls, sl, sb⟩ := E.slots
  obtain ⟨v, hv, rv⟩ := sl.get hi
  cases rv
  refine ⟨_, hv, b, q, n, rfl, E.bag b q hb, fun b2 q2 H1 s1 nb nq ne B2 => ?_⟩
  have bO := E.bO b q hb
  refine ⟨[b2, q2], some (b2, q2), 0, [.adr b2], _, fun b' q' e => ?_, fun o ho => ?_, .cons (.adr b2) .nil, h b2 q2, fun v d n' H' s j r ⟨k, e, kk⟩ => ?_⟩
  · cases e
    exact ⟨B2, List.mem_cons_self, List.mem_cons_of_mem _ List.mem_cons_self, ne⟩
  · obtain ⟨t, r, cs, h1, h2, _⟩ := B2
    rcases List.mem_cons.mp ho with z | z
    · rw [z, h1]; exact fun z => nomatch z
    · rw [List.mem_singleton.mp z, h2]; exact fun z => nomatch z
  · subst e
    cases r
    have nx : ∀ a o, H a = some o → H' a = some o := fun a o ha => by
      have ne2 : a ≠ b2 := fun z => by rw [z, nb] at ha; cases ha
      exact (hid_some.mp (s a o (hid_some.mpr ⟨fun z => ne2 (List.mem_singleton.mp z), s1 a o ha⟩))).2
    obtain ⟨sB, jB⟩ := E.same nx
    exact q0 _ _ n H' sB jB (.bl k) kk
end
/-! ### powers of any base -/
def CPowB (i j : Int) : Prop := 0 ≤ j ∧ (Builtin.Int.intBits i : Int) * j ≤ 2 ^ 27
theorem op_powB {X : Cx} : OpR X (binaryOp .Pow) (rI CPowB fun i j => .int (i ^ j.toNat)) := opI fun _ _ _ _ _ _ _ hc q => PyProof.Rows.pow_int hc.1 hc.2 q
end L3
/-! L5a: texts as data: split, join, str(int), int(text). -/
namespace L3
open PySem L2
section
variable {c : Ctx} {ρ : List SD} {n : Nat} {Φ : Nat → D → Prop} {to te : TE}
abbrev rSpl : V → List V → Hp → VK → Prop := fun x xs H Q => ∃ a b, x = .str a ∧ xs = [.str b] ∧ (b.length == 0) = false ∧ a.length + 2 ≤ sizeLine ∧ rNewStrs (Txt.split a b) H Q
abbrev rJoi (K : PySem.W.Frag) : V → List V → Hp → VK → Prop := fun x xs H Q => ∃ a p, ∃ ys : List Str, x = .str a ∧ xs = [.ref p] ∧ (SqL K H p (ys.map V.str) ∨ SqT K H p (ys.map V.str)) ∧
  (ys.map (·.length)).sum + ys.length * a.length ≤ 16777216 ∧ Q (.str (Txt.join a ys)) H
theorem rp_strs {K : PySem.W.Frag} {H : Hp} : ∀ {vs : List V} {zs : List Str}, RpAll K H vs (zs.map .str) → vs = zs.map V.str
  | [], [], _ => rfl
  | _ :: _, [], h => by cases h
  | [], _ :: _, h => by cases h
  | v :: vs, z :: zs, h => by
    cases h with
    | cons h t =>
      cases h
      rw [rp_strs t]; rfl
theorem rp_ofStrs {K : PySem.W.Frag} {H : Hp} : ∀ zs : List Str, RpAll K H (zs.map V.str) (zs.map .str)
  | [] => .nil
  | z :: zs => .cons (.str z) (rp_ofStrs zs)
theorem we_split (h : WE c to ρ n fun n1 d => ∃ a, d = .str a ∧ a.length + 2 ≤ sizeLine ∧ WE c te ρ n1 fun n2 e => ∃ b, e = .str b ∧ (b.length == 0) = false ∧ Φ n2 (.lst ((Txt.split a b).map .str))) : WE c (tM1 rSpl to te) ρ n Φ := fun P L σ H Q E q => by
  refine h P L σ H _ E fun x d n1 H1 s1 j1 r1 ⟨a, e, ha, h1⟩ => ?_
  subst e
  cases r1
  have E1 := E.step s1 j1
  refine ⟨⟨a, rfl⟩, h1 P L σ H1 _ E1 fun y d2 n2 H2 s2 j2 r2 ⟨b, e2, hb, k⟩ => ?_⟩
  subst e2
  cases r2
  refine ⟨a, b, rfl, rfl, hb, ha, fun p hp => ?_⟩
  have z := (E1.step s2 j2).newT (o := .lst ((Txt.split a b).map V.str)) hp
  exact q _ _ n2 _ ((s1.trans s2).trans z.1) z.2.1 (.lst (.inl (hid_at z.2.2)) (rp_ofStrs _)) k
theorem we_join (h : WE c to ρ n fun n1 d => ∃ a, d = .str a ∧ WE c te ρ n1 fun n2 e => ∃ zs : List Str, seqD e = some (zs.map .str) ∧ (zs.map (·.length)).sum + zs.length * a.length ≤ 16777216 ∧ Φ n2 (.str (Txt.join a zs))) : WE c (tM1 (rJoi c.K) to te) ρ n Φ := fun P L σ H Q E q => by
  refine h P L σ H _ E fun x d n1 H1 s1 j1 r1 ⟨a, e, h1⟩ => ?_
  subst e
  cases r1
  have E1 := E.step s1 j1
  refine ⟨⟨a, rfl⟩, h1 P L σ H1 _ E1 fun y d2 n2 H2 s2 j2 r2 ⟨zs, hs, hz, k⟩ => ?_⟩
  cases r2 with
  | lst hq hr =>
    have e := Option.some.inj hs
    subst e
    rw [rp_strs hr] at hq
    exact ⟨a, _, zs, rfl, rfl, .inl (.inl (same_rd same_hid hq)), hz, q _ _ n2 _ (s1.trans s2) j2 (.str _) k⟩
  | tup hq hr =>
    have e := Option.some.inj hs
    subst e
    rw [rp_strs hr] at hq
    exact ⟨a, _, zs, rfl, rfl, .inr (same_t same_hid hq), hz, q _ _ n2 _ (s1.trans s2) j2 (.str _) k⟩
  | _ => cases hs
abbrev rStrI : List V → Hp → VK → Prop := fun xs H Q => ∃ i : Int, xs = [.int i] ∧ i.natAbs.log2 < 1920 ∧ Q (.str (toString i)) H
abbrev rIntS : List V → Hp → VK → Prop := fun xs H Q => ∃ a n, xs = [.str a] ∧ PySem.intText? a = some n ∧ a.length ≤ 640 ∧ Q (.int n) H
theorem rc_strI {K : PySem.W.Frag} {Φ : D → Prop} {i : Int} (hi : i.natAbs.log2 < 1920) (k : Φ (.str (toString i))) : RCD K rStrI [.int i] Φ := fun O H xs Q rs no q => by
  obtain ⟨v, rfl, r⟩ := rs.one
  cases r
  exact ⟨i, rfl, hi, q _ _ H (Same.refl _) (.str _) k⟩
theorem rc_intS {K : PySem.W.Frag} {Φ : D → Prop} {a : Str} {i : Int} (h : PySem.intText? a = some i) (hl : a.length ≤ 640) (k : Φ (.int i)) : RCD K rIntS [.str a] Φ := fun O H xs Q rs no q => by
  obtain ⟨v, rfl, r⟩ := rs.one
  cases r
  exact ⟨a, i, rfl, h, hl, q _ _ H (Same.refl _) (.int _) k⟩
end
end L3
/-! L5b: instances whose __iter__ hands on the iterator of a tuple of theirs. -/
namespace L3
open PySem PySem.Spec PyProof.Rows L2
/-- a tuple's iterator at its beginning -/
def tiO (t : Addr) : Obj := { cls := .type "tuple_iterator", data := .fields #[.ref t, .int 0 0] }
def ItT (t it : Addr) : HO := .ext fun h => h.get? it = some (tiO t)
abbrev rItT (K : PySem.W.Frag) (n : Nat) : List V → Hp → VK → Prop := fun xs H Q => ∃ (t : Addr) (zs : List V), xs = [.ref t] ∧ SqT K H t zs ∧ ∀ it, H it = none → n ≤ it → Q (.ref it) (upd H it (ItT t it))
section
variable {X : Cx}
theorem x_iterT : CallR X (.builtin "iter") (rItT X.K X.s_0.heap.objs.size) := by
  intro pins s σ H xs us Q I r ⟨t, zs, hx, ht, q⟩
  subst hx
  have eu := Vals.ref1 r
  subst eu
  obtain ⟨its, _, pt, _⟩ := I.tuple ht
  refine Calls.call_function_entry (by decide +kernel) (by decide +kernel) PySem.W.kdk_entry_iter (PySem.W.kdk_args_iter _) ?_
  unfold Builtin.«iter»
  refine wpAny_bind (m := someArgs "iter" 1 2 _) (wpAny_of_eq (a := [Value.ref t]) (by first | rfl | kernel_rfl!) ?_)
  show wpAny _ _ (pyIter (Value.ref t) >>= _) _ _ _
  have ep : L2.Inv X pins σ (upd H s.heap.objs.size (ItT t s.heap.objs.size)) { s with heap := s.heap.push (tiO t), toks := s.toks } := I.laid (fun b u e => Heap.get?_push_of_some _ e) (Nat.le_refl _) ⟨Heap.get?_push_size _ rfl, ⟨_, Heap.get?_push_size _ rfl⟩, fun _ _ a k => k _ a⟩
  exact wpAny_bind (wpAny_pyIter_tuple (show s.heap.IsTuple t its.toArray from pt) (wpAny_pure ⟨_, rfl, .ref s.heap.objs.size, _, ep, rfl, q _ (I.hok.fresh (Nat.le_refl _)) I.sz⟩))
end
/-- what such an __iter__ does: f the field of the tuple -/
def ItRun (P : Program) (w : World) (K : PySem.W.Frag) (mg : Str → Option Value) (base : Heap) (C : Addr) (f : Str) (k : Nat) (fi : Addr) : Prop :=
  ∀ (A : Around) (outer : List PySem.Env) (s : Shared) (H : Hp) (E : XK) (a dx t : Addr) (fs : List (Str × V)) (xs : List V), Room k A → Env0 P w K mg base A outer s H → H a = some (.ins C dx fs) → fs.lookup f = some (.ref t) → SqT K H t xs →
    codeAny (model P w) A (.call (.ref fi) ⟨[.ref a], []⟩) (CR CX0 outer P w H s (fun v H' => ∃ it, v = .ref it ∧ H it = none ∧ s.heap.objs.size ≤ it ∧ H' = upd H it (ItT t it)) E) s
theorem itRun_of {P : Program} {w : World} {K : PySem.W.Frag} {mg : Str → Option Value} {base : Heap} {C fa : Addr} {f : Str} {k : Nat} {x qual : Str} {st : Stmt} {fd : FuncData} {N : List Str} (F : Fun K x qual st fa fd) (sc : FnScope N ["self"] (defScope st)) (b : Binds K fd ["self"] [])
    (body : ∀ (cdv : Value) (A : Around) (outer : List PySem.Env) (s : Shared) (H : Hp) (E : XK), ∃ t, PSs (cxOf CX0 P w K mg base N qual (defScope st) fa cdv A outer s H E).nox (defBody st) t ∧
      ∀ (a dx tt : Addr) (fs : List (Str × V)) (xs : List V) (Q : VK), H a = some (.ins C dx fs) → fs.lookup f = some (.ref tt) → SqT K H tt xs → (∀ it, H it = none → s.heap.objs.size ≤ it → Q (.ref it) (upd H it (ItT tt it))) → t { nx := fun _ H' => Q .non H', rt := Q } (L2.start N [.ref a]) H) : ItRun P w K mg base C f (k + 1) fa := by
  intro A outer s H E a dx tt fs xs hr e0 ha hl ht
  obtain ⟨oc, od, kV, doc, pm, an, cdv, ct, osl, rfl, lk, hcd⟩ := F.ex
  refine LamX.run_ofS (N := N) (ps := ["self"]) (vs := [.ref a]) (us := [.ref a]) lk hcd sc hr e0 (by
    have z := b s [.ref a] (e0.mod.kin.keeps fun b o e => (e0.bs b o e).1) rfl
    simpa using z) (.cons rfl .nil) rfl fun _ => ?_
  obtain ⟨t, h1, h2⟩ := body cdv A outer s H E
  exact ⟨t, h1.nox, h2 a dx tt fs xs (fun v H' => ∃ it, v = .ref it ∧ H it = none ∧ s.heap.objs.size ≤ it ∧ H' = upd H it (ItT tt it)) ha hl ht fun it hn hy => ⟨it, rfl, hn, hy, rfl⟩⟩
def iOwn (K : PySem.W.Frag) (C : Addr) (f : Str) (tl : TE) : TI := fun σ H R => tl σ H fun x H1 => ∃ (a dx t : Addr) (fs : List (Str × V)) (xs : List V), x = .ref a ∧ H1 a = some (.ins C dx fs) ∧ fs.lookup f = some (.ref t) ∧ SqT K H1 t xs ∧ R (Itt K t) H1
/-- a class with such an __iter__, as callers see it -/
structure ItOwn (P : Program) (w : World) (K : PySem.W.Frag) (mg : Str → Option Value) (base : Heap) (C : Addr) (f : Str) (k : Nat) where
  fi : Addr
  it : PySem.W.findIn K (.ref C) "__iter__" = some (some (.ref fi))
  fn : PySem.W.isFn K (.ref fi) = true
  G : ItRun P w K mg base C f k fi
section
variable {X : Cx} {tg l : Expr} {tl : TE} {C fi : Addr} {f : Str} {k : Nat} {E : XK}
theorem pi_own (hl : PE X l tl) (F : ItRun X.prog X.w X.K X.mg X.base C f k fi) (hi : PySem.W.findIn X.K (.ref C) "__iter__" = some (some (.ref fi))) (hf : PySem.W.isFn X.K (.ref fi) = true) (hr : Room k X.A) (hx : Passes CX0 X E) : PI X tg l (iOwn X.K C f tl) := by
  refine ⟨fun pins s σ H R I h => ?_⟩
  refine thn (hl.run pins s σ H _ I h) fun v s1 ⟨x, H1, I1, r1, a, dx, t, fs, xs, ex, ha, hfl, ht, q⟩ => ?_
  subst ex
  cases r1
  obtain ⟨mA, J, _⟩ := ins_get I1.hok ha
  obtain ⟨od, J, _⟩ := J.look
  obtain ⟨m, hF⟩ := I1.fr
  refine PySem.W.owit_iter hF I1.ok.mod.kin J hi hf (wpAny_call (codeAny_mono (F X.A X.stack s1 H1 E a dx t fs xs hr I1.env0 ha hfl ht) fun r s' hq => ?_))
  cases r with
  | error e => exact hx pins σ H1 s1 e s' I1 hq
  | ok fl =>
    cases fl with
    | next => exact False.elim hq
    | brk => exact False.elim hq
    | cont => exact False.elim hq
    | ret u =>
      obtain ⟨v, H2, I2, r2, it, ev, hit, young, eH⟩ := I1.after hq
      subst ev
      rw [eH] at I2
      cases r2
      have hat : upd H1 it (ItT t it) it = some (ItT t it) := upd_same
      have eo : s'.heap.get? it = some (tiO t) := (I2.hok it _ hat).1
      have st : s'.heap.IsTupleIter it t 0 := ⟨_, eo, rfl, rfl⟩
      unfold PySem.W.OwitIt
      refine wpAny_specialOf st.typeIs PySem.F.slot_tuple_iterator_next.lookup ?_
      have e : ItX.dropH (upd H1 it (ItT t it)) it = H1 := ItX.dropH_upd hit
      refine ⟨it, [it], _, Itt X.K t, H1, rfl, ?_, turn_tuple t it, st, fun b hb2 => ?_, q⟩
      · have z := ItX.inv_drop I2 hat
        rw [e] at z
        exact z
      · have eb : b = it := by simpa using hb2
        rw [eb]
        have z := ItX.inv_fp I2 hat (Nat.le_trans I1.sz young)
        rw [e] at z
        exact z
end
end L3
/-! L5c: own iteration as data; == of tuples of instances with an own ==. -/
namespace L3
open PySem L2
section
variable {c : Ctx} {ρ : List SD} {n : Nat} {te : TE}
theorem wi_own {C : Addr} {f : Str} {Φ : Nat → List D → Prop} (h : WE c te ρ n fun n1 d => ∃ ks ds, d = .obj C ks ∧ ks.lookup f = some (.tup ds) ∧ Φ n1 ds) : WI c (iOwn c.K C f te) ρ n Φ := fun P L σ H R E q => by
  refine h P L σ H _ E fun x d n1 H1 s1 j1 r1 ⟨ks, ds, e, el, k⟩ => ?_
  subst e
  cases r1 with
  | obj h1 hf =>
    obtain ⟨v, hv, rv⟩ := hf.look el
    cases rv with
    | tup hs ha => exact ⟨_, _, _, _, _, rfl, (hid_some.mp h1).2, hv, same_t same_hid hs, q _ _ n1 H1 s1 j1 (it_t hs ha) k⟩
/-- len of such an instance is not told here -/
def okE2 (K : PySem.W.Frag) (O : List Addr) (C : Addr) (good : List (Str × D) → Prop) (a b : Addr) (H : Hp) : Prop := (∀ o ∈ O, H o ≠ none) ∧ ∃ ks, good ks ∧ Rp K (hid O H) (.ref a) (.obj C ks) ∧ Rp K (hid O H) (.ref b) (.obj C ks)
theorem okE2_mon {K : PySem.W.Frag} {O : List Addr} {C : Addr} {good : List (Str × D) → Prop} (a b : Addr) (H H' : Hp) (e : Ext H H') (h : okE2 K O C good a b H) : okE2 K O C good a b H' := by
  obtain ⟨h1, ks, g, r1, r2⟩ := h
  refine ⟨fun o ho z => ?_, ks, g, r1.mono (same_hid_of e), r2.mono (same_hid_of e)⟩
  cases q : H o with
  | none => exact h1 o ho q
  | some u => rw [e o u q] at z; cases z
theorem fn_eq2 {P : Program} {w : World} {K : PySem.W.Frag} {mg : Str → Option Value} {base : Heap} {k : Nat} {f C : Addr} {fd : FuncData} {ps : List Str} {S : L3.Spec} {O : List Addr} {good : List (Str × D) → Prop} (F : FnOk P w K mg base CX0 k f fd ps (spD K S))
    (hS : ∀ ks, good ks → S none 0 [.obj C ks, .obj C ks] fun _ r => r = .bl true) : FnOk P w K mg base CX0 k f fd ps (spEq (okE2 K O C good)) := F.imp fun vs H Q E h => by
  obtain ⟨a, b, rfl, ⟨h1, ks, g, r1, r2⟩, q⟩ := h
  refine ⟨O, none, 0, _, _, (fun b q e => nomatch e), h1, .cons r1 (.cons r2 .nil), hS ks g, fun v d n' H' s j r e => ?_⟩
  subst e
  cases r
  refine q H' fun a o e => ?_
  have z : Same (hid [] H) (hid [] H') := s
  rw [hid_nil, hid_nil] at z
  exact z a o e
/-- x == y, two tuples of the same things, item by item by an own == -/
def rOwnT (K : PySem.W.Frag) (C : Addr) (good : List (Str × D) → Prop) : R2 := fun x y H Q => ∃ O, DTup K (DIns C (okE2 K O C good)) x y H ∧ ∀ H', Ext H H' → Q (.bl true) H'
theorem op_ownT {X : Cx} {C : Addr} {n f : Nat} {fd : FuncData} {ps : List Str} {S : L3.Spec} {E : XK} {good : List (Str × D) → Prop} (F : FnOk X.prog X.w X.K X.mg X.base CX0 n f fd ps (spD X.K S)) (hS : ∀ ks, good ks → S none 0 [.obj C ks, .obj C ks] fun _ r => r = .bl true)
    (T : OwnEqT X.K C f) (hr : Room (n + 1) X.A) (hb : Binds X.K fd ps []) (hx : Passes CX0 X E) : OpR X (compareOp .Eq) (rOwnT X.K C good) := by
  intro pins s σ H x y v u Q I rx ry ⟨O, d, q⟩
  exact op_eqG (rcG_tup (mon_ins okE2_mon) (eqG_ins (fn_eq2 (O := O) F hS) T.eq T.fn hb hx)) hr pins s σ H x y v u Q I rx ry ⟨d, q⟩
theorem rp_prs {K : PySem.W.Frag} {O : List Addr} {C : Addr} {good : List (Str × D) → Prop} {H : Hp} (hO : ∀ o ∈ O, H o ≠ none) : ∀ {vs ws : List V} {ds : List D}, (∀ d ∈ ds, ∃ ks, d = .obj C ks ∧ good ks) → RpAll K (hid O H) vs ds → RpAll K (hid O H) ws ds → Prs (DIns C (okE2 K O C good)) vs ws H
  | _, _, _, _, .nil, .nil => Prs.nil
  | _, _, _, hg, .cons h t, .cons h2 t2 => by
    refine Prs.cons ?_ (rp_prs hO (fun d hd => hg d (List.mem_cons_of_mem _ hd)) t t2)
    obtain ⟨ks, e, g⟩ := hg _ List.mem_cons_self
    subst e
    cases id h with
    | obj g1 f1 =>
      cases id h2 with
      | obj g2 f2 => exact ⟨_, _, _, _, _, _, rfl, rfl, (hid_some.mp g1).2, (hid_some.mp g2).2, hO, ks, g, h, h2⟩
theorem r2_ownT {K : PySem.W.Frag} {C : Addr} {good : List (Str × D) → Prop} {ds : List D} {Φ : D → Prop} (hg : ∀ d ∈ ds, ∃ ks, d = .obj C ks ∧ good ks) (k : Φ (.bl true)) : R2D K (rOwnT K C good) (.tup ds) (.tup ds) Φ := fun O H x y Q rx ry no q => by
  cases rx with
  | tup h1 r1 =>
    cases ry with
    | tup h2 r2 =>
      exact ⟨O, ⟨_, _, _, _, rfl, rfl, same_t same_hid h1, same_t same_hid h2, rp_prs (fun o ho e => no o e ho) hg r1 r2⟩, fun H' e => q _ _ H' e (.bl _) k⟩
end
end L3
/-! L5d: try with several clauses, each with a name for its error. -/
namespace L3
open PySem PySem.Spec PyProof.Rows L2
abbrev Sui := Addr → Value → Option Addr → TS
/-- what the clauses wish of an error, one after the other -/
def wAll (K : PySem.W.Frag) (Wout : WX) (D : Ends) : List (Value × Nat × Sui) → WX
  | [] => Wout
  | (c, i, ts) :: r => wAs K c i ts (wAll K Wout D r) D
inductive ClsOk (X : Cx) : List ExceptHandler → List (Value × Nat × Sui) → Prop
  | nil : ClsOk X [] []
  | cons {x nm : Str} {c : Value} {i : Nat} {ts : Sui} {b₀ : Stmt} {su : List Stmt} {np p' : Pos} {hds : List ExceptHandler} {l : List (Value × Nat × Sui)} (hi : X.N[i]? = some nm) (hln : X.env.kindOf nm = some .local) (hc : Names X x c)
      (hsu : ∀ (a : Addr) (oe : Obj) (cls : Value) (d : Option Addr) (pn : List (Addr × Obj)), Zc cls d oe → (∃ vs, oe.data = .fields vs) → PSs (X.suite a ((a, oe) :: pn)) (b₀ :: su) (ts a cls d)) (r : ClsOk X hds l) :
      ClsOk X (.ExceptHandler (some (.Name x np)) (some nm) (b₀ :: su) p' :: hds) ((c, i, ts) :: l)
section
variable {X : Cx} {body : List Stmt} {h₀ : ExceptHandler} {hds : List ExceptHandler} {l : List (Value × Nat × Sui)} {pos : Pos} {tb : WX → TS} {Wout : WX}
def tTryN (K : PySem.W.Frag) (l : List (Value × Nat × Sui)) (Wout : WX) (tb : WX → TS) : TS := fun D σ H => tb (wAll K Wout D l) D σ H
theorem ps_tryN {K : PySem.W.Frag} (hs : X.stack = X.env :: X.outer) (hf : X.env.frame = some X.env.locals) (hN : X.N.Nodup) (tk : Takes X Wout)
    (hb : ∀ (W : WX) (pn : List (Addr × Obj)) (xe : Value → Shared → Prop), Takes (X.tr pn xe) W → PassesOwn (model X.prog X.w) X.A X.env xe → PSs (X.tr pn xe) body (tb W))
    (hh : ClsOk X (h₀ :: hds) l) (hK : X.K = K := by rfl) : PS X (.Try body (h₀ :: hds) [] [] pos) (tTryN K l Wout tb) := by
  subst hK
  refine ⟨fun pins s σ H D I h => ?_⟩
  have good := I.ok
  have frA : X.A.frames = some (X.env :: X.outer) := good.frames.trans (by rw [hs])
  let xe' : Value → Shared → Prop := fun e t => wpAny (model X.prog X.w) X.A (noteFrame e X.env) (fun _ t2 => wpAny (model X.prog X.w) X.A (setFlight e none) (fun _ t3 => wpAny (model X.prog X.w) X.A (handleBy e X.env (h₀ :: hds)) (SP X pins D) X.xe t3) X.xe t2) X.xe t
  refine wpAny_Try_except ?_
  refine wpAny_mono ((hb (wAll X.K Wout D l) (X.pn ++ pins) xe' (fun u t caught => ?ca) PassesOwn.looking).run [] s σ H D (I.toTry _) h) (fun f t through => ?thru) (fun _ _ z => z)
  case thru =>
    cases f with
    | ret u => obtain ⟨v, σ1, H1, J, r, q⟩ := through; exact ⟨v, σ1, H1, J.ofTry good, r, q⟩
    | brk => obtain ⟨σ1, H1, J, q⟩ := through; exact ⟨σ1, H1, J.ofTry good, q⟩
    | cont => obtain ⟨σ1, H1, J, q⟩ := through; exact ⟨σ1, H1, J.ofTry good, q⟩
    | next => obtain ⟨σ1, H1, J, q⟩ := through; exact wpAny_execs_nil ⟨σ1, H1, J.ofTry good, q⟩
  case ca =>
    obtain ⟨a, B, t0, pins1, σ1, H1, cls, d, rfl, J0, nb, up1, sky, na, os, ag, wish⟩ := caught
    have J : L2.Inv X pins σ1 H1 t0 := J0.ofTry good
    have sky1 : Sky B (X.env :: X.outer) a (Zc cls d) X.env.locals t.heap := hs ▸ sky
    show wpAny (model X.prog X.w) X.A (noteFrame (.ref a) X.env) _ _ _
    refine Sky.land Zc.steady frA hf sky1 fun h2 fl2 up2 => ?_
    have J2 : L2.Inv X pins σ1 H1 { t with heap := h2 } := J.landed nb fl2.1 (up1.trans up2) os ag
    obtain ⟨o2, w2, e2, z2, d2⟩ := fl2.there
    have away : a ∉ frs (X.env :: X.outer) := fun hm => by
      obtain ⟨_, o', e', nf⟩ := fl2.2.2.1.mem hm
      rw [e2] at e'
      cases e'
      exact nf _ d2
    have nLoc : a ≠ X.env.locals := fun z => away (List.mem_filterMap.mpr ⟨X.env, List.mem_cons_self, by rw [hf, z]⟩)
    have nOut : a ∉ X.fs := fun hm => by
      obtain ⟨e, he, q⟩ := List.mem_filterMap.mp hm
      exact away (List.mem_filterMap.mpr ⟨e, List.mem_cons_of_mem _ he, q⟩)
    have S2 := J2.suite e2 d2 na nLoc nOut
    have each : ∀ {gs : List ExceptHandler} {ls : List (Value × Nat × Sui)}, ClsOk X gs ls → wAll X.K Wout D ls cls d σ1 H1 → wpAny (model X.prog X.w) X.A (handleBy (.ref a) X.env gs) (SP X pins D) X.xe { t with heap := h2 } := by
      intro gs ls hk
      induction hk with
      | nil =>
        intro wi
        refine wpAny_handleBy_nil ?_
        obtain ⟨_, _, _, _, _, T, _, _, he, _, hd, h1, _⟩ := id fl2
        unfold PySem.passOn
        refine wpAny_bind (wpAny_field he hd h1 ?_)
        rw [if_neg (show ¬ ((Value.ref T == Value.none) = true) from by simp)]
        have on : wpAny (model X.prog X.w) X.A (setFlight (.ref a) X.env.frame) (fun _ s4 => wpAny (model X.prog X.w) X.A (throw (.ref a) : Sem Flow) (SP X pins D) X.xe s4) X.xe { t with heap := h2 } := by
          rw [hf]
          exact HandSPX.setFlight_upZ fl2 fun h4 hh4 up4 => wpAny_throw (tk _ _ ⟨a, B, t0, pins, σ1, H1, cls, d, rfl, J, nb, (up1.trans up2).trans up4, .inr (.inr (by rw [hs]; exact hh4)), na, os, ag, wi⟩)
        first
          | exact wpAny_bind (wpAny_pure (wpAny_bind on))
          | exact wpAny_bind on
      | @cons x nm c i ts b₀ su np p' gs2 ls2 hi hln hc hsu r ih =>
        intro wi
        obtain ⟨b, hb1, yes, no⟩ := wi
        have isT : PySem.W.Looks (model X.prog X.w) h2 (typeOf (.ref a)) cls := fun A Q E s k q => wpAny_typeOf_ref (k _ _ e2) (by rw [z2.1]; exact q)
        have seen : ∀ {Q : Value → Shared → Prop} {E : Value → Shared → Prop}, Q c { t with heap := h2 } → wpAny (model X.prog X.w) (X.A.mark (some (.ref a))) (eval (.Name x np) X.env) Q E { t with heap := h2 } := fun {Q E} q => by
          obtain ⟨hg, hdb, g | ⟨g, hv, hnn⟩⟩ := hc
          · exact ld_glob (X := X.suite a ((a, o2) :: (X.pn ++ pins))) S2 hg g q hdb
          · exact ld_blt (X := X.suite a ((a, o2) :: (X.pn ++ pins))) S2 hg g hv q hnn hdb
        refine wpAny_handleBy_cons (codeAny_handlers_test (seen ((PySem.W.exm_one (M := model X.prog X.w) J2.kIn isT hb1).here ?_))) (fun q => nomatch q)
        cases b with
        | false => exact ih (no rfl)
        | true =>
          refine codeAny_handlers_suite_as (HandSPX.lands_againZ fl2 fun h4 fl4 up4 => ?_)
          have J4 : L2.Inv X pins σ1 H1 { t with heap := h4 } := J.landed nb fl4.1 ((up1.trans up2).trans up4) os ag
          obtain ⟨o4, w4, e4, z4, d4⟩ := fl4.there
          refine store_ok (X := X.suite a ((a, o4) :: (X.pn ++ pins))) (v := .ref a) (J4.suite e4 d4 na nLoc nOut) hN hi (.inl hln) rfl (fun s5 S5 => ?_) (.inr hln)
          have over : ∀ {s6 : Shared} {σ6 : L2.St} {H6 : Hp} {Q : Shared → Prop}, L2.Inv (X.suite a ((a, o4) :: (X.pn ++ pins))) [] σ6 H6 s6 → (∀ s7, L2.Inv X pins (σ6.set i none) H6 s7 → Q s7) →
              wpAny (model X.prog X.w) X.A (do bindName X.env nm .none; unbindBehindTheSuite X.env nm p') (fun _ s7 => Q s7) X.xe s6 := fun S6 hq => gone_ok (S6.unsuite good) hN hi hln hq
          refine wpAny_mono ((hsu a o4 cls d (X.pn ++ pins) z4 ⟨_, d4⟩).run [] s5 _ H1 _ S5 (yes rfl a na)) (fun f s6 done => ?_) (fun _ _ z => z.elim)
          cases f with
          | ret u => obtain ⟨v, σ6, H6, S6, r6, q6⟩ := done; exact over S6 fun s7 J7 => ⟨_, _, _, J7, r6, q6⟩
          | brk => obtain ⟨σ6, H6, S6, q6⟩ := done; exact over S6 fun s7 J7 => ⟨_, _, J7, q6⟩
          | cont => obtain ⟨σ6, H6, S6, q6⟩ := done; exact over S6 fun s7 J7 => ⟨_, _, J7, q6⟩
          | next => obtain ⟨σ6, H6, S6, q6⟩ := done; exact over S6 fun s7 J7 => ⟨_, _, J7, q6⟩
    exact each hh wish
end
section
variable {c : Ctx} {ρ : List SD} {n : Nat} {Ψ : Out} {tb : WX → TS} {Wout : WX} {Ξ : Er}
/-- the suite that takes an error of the class C with the fields ks -/
def Taken (c : Ctx) (Ψ : Out) (n' : Nat) (ρ' : List SD) (C : Addr) (ks : List (Str × D)) : List (Value × Nat × Sui) → Prop
  | [] => False
  | (cl, i, ts) :: r => (PySem.W.exmOne c.K (.ref C) cl = some true ∧ ∀ O' H0' dx a, Held { c with O := O', H0 := H0' } dx ks → WS { c with O := O', H0 := H0' } (ts a (.ref C) (some dx)) ((ρ'.map asd).set i (.val (.adr a))) n' (outU Ψ i)) ∨
      (PySem.W.exmOne c.K (.ref C) cl = some false ∧ Taken c Ψ n' ρ' C ks r)
theorem ws_tryN {l : List (Value × Nat × Sui)} (hb : ∀ O' H0', ∀ W, XA { c with O := O', H0 := H0' } W Ξ → WS { c with O := O', H0 := H0' } (tb W) (ρ.map asd) n Ψ) (hs : ∀ n' ρ' C ks, Ξ n' ρ' C ks → Taken c Ψ n' ρ' C ks l) : WS c (tTryN c.K l Wout tb) ρ n Ψ := fun P L σ H Dn E A => by
  refine hb (L ++ c.O) H _ ?_ (fun _ => none) [] σ H Dn E.re (A.re E)
  intro P2 L2 n2 H2 σ2 ρ2 C dx fs ks E2 hx hn hf kk
  have E3 : Env c P (L2 ++ L) n2 H2 σ2 ρ2 := E.back E2
  have eO : (L2 ++ L) ++ c.O = L2 ++ (L ++ c.O) := List.append_assoc _ _ _
  have hd : Held { c with O := (L2 ++ L) ++ c.O, H0 := H2 } dx ks := ⟨⟨fs, hx, by rw [eO]; exact hf⟩, by rw [eO]; exact hn⟩
  have go : ∀ l : List (Value × Nat × Sui), Taken c Ψ n2 ρ2 C ks l → wAll c.K Wout Dn l (.ref C) (some dx) σ2 H2 := by
    intro l
    induction l with
    | nil => exact fun z => z.elim
    | cons p r ih =>
      obtain ⟨cl, i, ts⟩ := p
      rintro (⟨he, hh⟩ | ⟨he, hh⟩)
      · refine ⟨true, he, fun _ a ha => ?_, fun z => nomatch z⟩
        refine hh _ _ dx a hd (fun _ => none) [] _ H2 _ (E3.re.set i (.adr a)) ?_
        exact { nx := fun L5 n5 H5 σ5 ρ5 E5 k => A.nx _ n5 H5 _ _ ((E3.back E5).unset i) k,
                rt := fun v d n5 H5 s j r k => A.rt v d n5 H5 (E3.base.trans s) j (r.mono (same_hid_sub fun a ha => List.mem_append_right _ ha)) k,
                bk := fun L5 n5 H5 σ5 ρ5 E5 k => A.bk _ n5 H5 _ _ ((E3.back E5).unset i) k,
                ct := fun L5 n5 H5 σ5 ρ5 E5 k => A.ct _ n5 H5 _ _ ((E3.back E5).unset i) k }
      · exact ⟨false, he, fun z => (nomatch z), fun _ => ih hh⟩
  exact go l (hs n2 ρ2 C ks kk)
end
end L3
/-! L6a: a list of lists of one's own. -/
namespace L3
open PySem L2
theorem RpAll.imp {K : PySem.W.Frag} {H H' : Hp} (e : ∀ v d, Rp K H v d → Rp K H' v d) : ∀ {vs : List V} {ds : List D}, RpAll K H vs ds → RpAll K H' vs ds
  | _, _, .nil => .nil
  | _, _, .cons h r => .cons (e _ _ h) (RpAll.imp e r)
/-- a list of lists of one's own: its address; each row's address and what is in it -/
def LL (l : Addr) (rs : List (Addr × List D)) : OT where
  ls := l :: rs.map (·.1)
  R := fun _ _ K O H v => v = .ref l ∧ H l = some (.lst (rs.map fun r => V.ref r.1)) ∧ ∀ r ∈ rs, ∃ xs, H r.1 = some (.lst xs) ∧ RpAll K (hid O H) xs r.2
  mv := fun {pr wd K O O' H H' v} h hl e => by
    obtain ⟨h1, h2, h3⟩ := h
    refine ⟨h1, (hl _ List.mem_cons_self).trans h2, fun r hr => ?_⟩
    obtain ⟨xs, g1, g2⟩ := h3 r hr
    refine ⟨xs, (hl _ (List.mem_cons_of_mem _ (List.mem_map_of_mem hr))).trans g1, ?_⟩
    exact g2.imp e
  ex := fun {pr wd K O H v} h x hx => by
    obtain ⟨h1, h2, h3⟩ := h
    rcases List.mem_cons.mp hx with q | q
    · subst q; exact ⟨_, h2⟩
    · obtain ⟨r, hr, e⟩ := List.mem_map.mp q
      obtain ⟨xs, g1, _⟩ := h3 r hr
      subst e; exact ⟨_, g1⟩
section
variable {pr : Program} {wd : World} {K : PySem.W.Frag}
/-- what stands at a slot of a structure; the slot filled anew -/
theorem Slots.otAt {O : List Addr} {H : Hp} {T : OT} : ∀ {σ : List (Option V)} {ρ : List SD} {L : List Addr} {i : Nat}, Slots pr wd K O H σ ρ L → ρ[i]? = some (.ot T) → ∃ L1 L2 v, L = L1 ++ (T.ls ++ L2) ∧ σ[i]? = some (some v) ∧ T.R pr wd K O H v ∧
    ∀ O' H', (∀ l ∈ L1 ++ L2, H' l = H l) → Same (hid O H) (hid O' H') → (∀ T' : OT, T'.R pr wd K O' H' v → Slots pr wd K O' H' σ (ρ.set i (.ot T')) (L1 ++ (T'.ls ++ L2))) ∧ (∀ d, Rp K (hid O' H') v d → Slots pr wd K O' H' σ (ρ.set i (.val d)) (L1 ++ L2))
  | _, _, _, _, .nil, e => by simp at e
  | _, _, _, 0, .un _, e => by simp at e
  | _, _, _, 0, .val _ _, e => by simp at e
  | _, _, _, 0, .own _ _ _, e => by simp at e
  | _, _, _, 0, .dic _ _, e => by simp at e
  | _, _, _, 0, .dk _ _, e => by simp at e
  | _, _, _, 0, .tw _ _, e => by simp at e
  | _, _, _, 0, .ot (L := L0) h q s, e => by
    simp at e
    subst e
    exact ⟨[], L0, _, q, rfl, h, fun O' H' hL a => ⟨fun T' t => .ot t rfl (s.move hL a), fun d r => .val r (s.move hL a)⟩⟩
  | _, _, _, i + 1, .un s, e => by
    obtain ⟨L1, L2, v, h1, h2, h3, h4⟩ := Slots.otAt (i := i) s (by simpa using e)
    exact ⟨L1, L2, v, h1, by simpa using h2, h3, fun O' H' hL a => ⟨fun T' t => .un ((h4 O' H' hL a).1 T' t), fun d r => .un ((h4 O' H' hL a).2 d r)⟩⟩
  | _, _, _, i + 1, .val g s, e => by
    obtain ⟨L1, L2, v, h1, h2, h3, h4⟩ := Slots.otAt (i := i) s (by simpa using e)
    exact ⟨L1, L2, v, h1, by simpa using h2, h3, fun O' H' hL a => ⟨fun T' t => .val (g.mono a) ((h4 O' H' hL a).1 T' t), fun d r => .val (g.mono a) ((h4 O' H' hL a).2 d r)⟩⟩
  | _, _, _, i + 1, .own (l := l) g gr s, e => by
    obtain ⟨L1, L2, v, h1, h2, h3, h4⟩ := Slots.otAt (i := i) s (by simpa using e)
    exact ⟨l :: L1, L2, v, by rw [h1]; rfl, by simpa using h2, h3, fun O' H' hL a => by
      have z := h4 O' H' (fun x hx => hL x (List.mem_cons_of_mem _ hx)) a
      exact ⟨fun T' t => .own ((hL l List.mem_cons_self).trans g) (gr.mono a) (z.1 T' t), fun d r => .own ((hL l List.mem_cons_self).trans g) (gr.mono a) (z.2 d r)⟩⟩
  | _, _, _, i + 1, .dic (l := l) g s, e => by
    obtain ⟨L1, L2, v, h1, h2, h3, h4⟩ := Slots.otAt (i := i) s (by simpa using e)
    exact ⟨l :: L1, L2, v, by rw [h1]; rfl, by simpa using h2, h3, fun O' H' hL a => by
      have z := h4 O' H' (fun x hx => hL x (List.mem_cons_of_mem _ hx)) a
      exact ⟨fun T' t => .dic (g.move (hL l List.mem_cons_self) a) (z.1 T' t), fun d r => .dic (g.move (hL l List.mem_cons_self) a) (z.2 d r)⟩⟩
  | _, _, _, i + 1, .dk (l := l) g s, e => by
    obtain ⟨L1, L2, v, h1, h2, h3, h4⟩ := Slots.otAt (i := i) s (by simpa using e)
    exact ⟨l :: L1, L2, v, by rw [h1]; rfl, by simpa using h2, h3, fun O' H' hL a => by
      have z := h4 O' H' (fun x hx => hL x (List.mem_cons_of_mem _ hx)) a
      exact ⟨fun T' t => .dk (g.move (hL l List.mem_cons_self) a) (z.1 T' t), fun d r => .dk (g.move (hL l List.mem_cons_self) a) (z.2 d r)⟩⟩
  | _, _, _, i + 1, .tw (l := l) g s, e => by
    obtain ⟨L1, L2, v, h1, h2, h3, h4⟩ := Slots.otAt (i := i) s (by simpa using e)
    exact ⟨l :: L1, L2, v, by rw [h1]; rfl, by simpa using h2, h3, fun O' H' hL a => by
      have z := h4 O' H' (fun x hx => hL x (List.mem_cons_of_mem _ hx)) a
      exact ⟨fun T' t => .tw (g.move (hL l List.mem_cons_self) a) (z.1 T' t), fun d r => .tw (g.move (hL l List.mem_cons_self) a) (z.2 d r)⟩⟩
  | _, _, _, i + 1, .ot (T := T0) (L := L0) g q s, e => by
    obtain ⟨L1, L2, v, h1, h2, h3, h4⟩ := Slots.otAt (i := i) s (by simpa using e)
    refine ⟨_ ++ L1, L2, v, by rw [q, h1, ← List.append_assoc], by simpa using h2, h3, fun O' H' hL a => ?_⟩
    rw [List.append_assoc] at hL
    have z := h4 O' H' (fun x hx => hL x (List.mem_append_right _ hx)) a
    have g' := OT.mv _ g (fun l hl => hL l (List.mem_append_left _ hl)) fun _ _ r => r.mono a
    exact ⟨fun T' t => .ot g' (List.append_assoc _ _ _) (z.1 T' t), fun d r => .ot g' (List.append_assoc _ _ _) (z.2 d r)⟩
/-- an own list read as a structure -/
theorem Slots.own2ot {O : List Addr} {H : Hp} {ds : List D} : ∀ {σ : List (Option V)} {ρ : List SD} {L : List Addr} {i : Nat}, Slots pr wd K O H σ ρ L → ρ[i]? = some (.own ds) → ∃ l xs, l ∈ L ∧ H l = some (.lst xs) ∧ RpAll K (hid O H) xs ds ∧ ∀ T : OT, T.ls = [l] → T.R pr wd K O H (.ref l) → Slots pr wd K O H σ (ρ.set i (.ot T)) L
  | _, _, _, _, .nil, e => by simp at e
  | _, _, _, 0, .un _, e => by simp at e
  | _, _, _, 0, .val _ _, e => by simp at e
  | _, _, _, 0, .own (l := l) h r s, e => by
    simp at e
    subst e
    exact ⟨l, _, List.mem_cons_self, h, r, fun T q t => .ot t (by rw [q]; rfl) s⟩
  | _, _, _, 0, .dic _ _, e => by simp at e
  | _, _, _, 0, .dk _ _, e => by simp at e
  | _, _, _, 0, .tw _ _, e => by simp at e
  | _, _, _, 0, .ot _ _ _, e => by simp at e
  | _, _, _, i + 1, .un s, e => by
    obtain ⟨l, xs, h1, h2, h3, h4⟩ := Slots.own2ot (i := i) s (by simpa using e)
    exact ⟨l, xs, h1, h2, h3, fun T q t => .un (h4 T q t)⟩
  | _, _, _, i + 1, .val g s, e => by
    obtain ⟨l, xs, h1, h2, h3, h4⟩ := Slots.own2ot (i := i) s (by simpa using e)
    exact ⟨l, xs, h1, h2, h3, fun T q t => .val g (h4 T q t)⟩
  | _, _, _, i + 1, .own g gr s, e => by
    obtain ⟨l, xs, h1, h2, h3, h4⟩ := Slots.own2ot (i := i) s (by simpa using e)
    exact ⟨l, xs, List.mem_cons_of_mem _ h1, h2, h3, fun T q t => .own g gr (h4 T q t)⟩
  | _, _, _, i + 1, .dic g s, e => by
    obtain ⟨l, xs, h1, h2, h3, h4⟩ := Slots.own2ot (i := i) s (by simpa using e)
    exact ⟨l, xs, List.mem_cons_of_mem _ h1, h2, h3, fun T q t => .dic g (h4 T q t)⟩
  | _, _, _, i + 1, .dk g s, e => by
    obtain ⟨l, xs, h1, h2, h3, h4⟩ := Slots.own2ot (i := i) s (by simpa using e)
    exact ⟨l, xs, List.mem_cons_of_mem _ h1, h2, h3, fun T q t => .dk g (h4 T q t)⟩
  | _, _, _, i + 1, .tw g s, e => by
    obtain ⟨l, xs, h1, h2, h3, h4⟩ := Slots.own2ot (i := i) s (by simpa using e)
    exact ⟨l, xs, List.mem_cons_of_mem _ h1, h2, h3, fun T q t => .tw g (h4 T q t)⟩
  | _, _, _, i + 1, .ot g q0 s, e => by
    obtain ⟨l, xs, h1, h2, h3, h4⟩ := Slots.own2ot (i := i) s (by simpa using e)
    exact ⟨l, xs, by rw [q0]; exact List.mem_append_right _ h1, h2, h3, fun T q t => .ot g q0 (h4 T q t)⟩
end
section
variable {c : Ctx} {ρ : List SD} {n : Nat} {P : Hp} {L : List Addr} {H : Hp} {σ : List (Option V)}
theorem Env.ot (E : Env c P L n H σ ρ) {i : Nat} {T : OT} (h : ρ[i]? = some (.ot T)) : ∃ v, σ[i]? = some (some v) ∧ T.R c.pr c.wd c.K (L ++ c.O) H v ∧ (∀ a ∈ T.ls, a ∈ L) ∧ T.ls.Nodup := by
  obtain ⟨Ls, sl, sb⟩ := E.slots
  obtain ⟨L1, L2, v, h1, h2, h3, _⟩ := sl.otAt h
  have nd := sb.nodup E.nd
  rw [h1] at nd
  exact ⟨v, h2, h3, fun a ha => sb.subset (by rw [h1]; exact List.mem_append_right _ (List.mem_append_left _ ha)), (List.nodup_append.mp (List.nodup_append.mp nd).2.1).1⟩
/-- one cell of a structure of one's own changed -/
theorem Env.otUpd (E : Env c P L n H σ ρ) {i : Nat} {T T' : OT} (h : ρ[i]? = some (.ot T)) {l : Addr} {o : HO} (hl : l ∈ T.ls) (e : T'.ls = T.ls) {v : V} (hv : σ[i]? = some (some v)) (t : T'.R c.pr c.wd c.K (L ++ c.O) (upd H l o) v) : Env c P L n (upd H l o) σ (ρ.set i (.ot T')) := by
  obtain ⟨Ls, sl, sb⟩ := E.slots
  obtain ⟨L1, L2, v', h1, h2, h3, h4⟩ := sl.otAt h
  rw [h2] at hv
  cases hv
  have nd := sb.nodup E.nd
  rw [h1] at nd
  have lL : l ∈ L := sb.subset (by rw [h1]; exact List.mem_append_right _ (List.mem_append_left _ hl))
  have hm : l ∈ L ++ c.O := List.mem_append_left _ lL
  have hO : l ∉ c.O := (E.fresh l lL).2
  have bs : Same (hid c.B c.H0) (hid c.B (upd H l o)) := same_upd_old (E.fresh l lL).1 E.base
  have out : ∀ x ∈ L1 ++ L2, x ≠ l := fun x hx q => by
    subst q
    rcases List.mem_append.mp hx with z | z
    · exact (List.nodup_append.mp nd).2.2 _ z _ (List.mem_append_left _ hl) rfl
    · exact (List.nodup_append.mp (List.nodup_append.mp nd).2.1).2.2 _ hl _ z rfl
  have z := (h4 (L ++ c.O) (upd H l o) (fun x hx => upd_ne (out x hx)) (by rw [hid_upd_in hm]; exact Same.refl _)).1 T' t
  exact { nd := E.nd, fresh := E.fresh, slots := ⟨_, z, by rw [e, ← h1]; exact sb⟩,
          lst := fun a ha => by
            by_cases e : a = l
            · exact ⟨_, by rw [e, upd_same]⟩
            · rw [upd_ne e]; exact E.lst a ha,
          bag := fun b q hb => (E.bag b q hb).move (fun o h => by rw [upd_ne fun e : b = l => hO (e ▸ (E.bO b q hb).1)]; exact h) fun o h => by rw [upd_ne fun e : q = l => hO (e ▸ (E.bO b q hb).2.1)]; exact h,
          base := bs, pers := by rw [hid_upd_in hm]; exact E.pers, bO := E.bO,
          al := fun o ho => by rw [upd_ne fun e : o = l => hO (e ▸ ho)]; exact E.al o ho }
/-- a new cell taken for one's own -/
theorem Env.absorb (E : Env c P L n H σ ρ) {n1 : Nat} {H1 : Hp} {p : Addr} {o : HO} (s1 : Same (hid c.B H) (hid c.B H1)) (j1 : c.J n1 H1) (hp : H p = none) (h1 : H1 p = some o) : Env c P (p :: L) n1 H1 σ ρ := by
  have w := E.new hp
  have E1 := E.step s1 j1
  have hs : Same (hid (L ++ c.O) H) (hid (p :: (L ++ c.O)) H1) := fun a o q => by
    obtain ⟨q1, q2⟩ := hid_some.mp q
    have q3 := (hid_some.mp (E.sameLO s1 a o q)).2
    refine hid_some.mpr ⟨fun z => ?_, q3⟩
    rcases List.mem_cons.mp z with z | z
    · subst z; rw [hp] at q2; cases q2
    · exact q1 z
  obtain ⟨Ls, sl0, sb⟩ := E.slots
  exact { nd := List.nodup_cons.mpr ⟨w.2.2, E.nd⟩,
          fresh := fun l hl => by
            rcases List.mem_cons.mp hl with q | q
            · subst q; exact ⟨w.1, w.2.1⟩
            · exact E.fresh l q,
          slots := ⟨Ls, sl0.move (fun l hl => E.own s1 l (sb.subset hl)) hs, sb.cons _⟩,
          lst := fun l hl => by
            rcases List.mem_cons.mp hl with q | q
            · subst q; exact ⟨_, h1⟩
            · exact E1.lst l q,
          bag := j1, base := E1.base, pers := E.pers.trans hs, bO := E.bO, al := E1.al }
/-- the owned in another row -/
theorem Env.perm (E : Env c P L n H σ ρ) {L' : List Addr} (h : L'.Perm L) {Ls : List Addr} {ρ' : List SD} (sl : Slots c.pr c.wd c.K (L ++ c.O) H σ ρ' Ls) (sb : Ls.Sublist L') : Env c P L' n H σ ρ' := by
  have mem : ∀ a, a ∈ L' ++ c.O → a ∈ L ++ c.O := fun a q => by
    rcases List.mem_append.mp q with q | q
    · exact List.mem_append_left _ (h.mem_iff.mp q)
    · exact List.mem_append_right _ q
  exact { nd := h.nodup_iff.mpr E.nd, fresh := fun l hl => E.fresh l (h.mem_iff.mp hl), slots := ⟨Ls, sl.move (fun _ _ => rfl) (same_hid_sub mem), sb⟩,
          lst := fun l hl => E.lst l (h.mem_iff.mp hl), bag := E.bag, base := E.base, pers := E.pers.trans (same_hid_sub mem), bO := E.bO, al := E.al }
/-- given up: read from now on -/
theorem Env.otFreeze (E : Env c P L n H σ ρ) {i : Nat} {l : Addr} {rs : List (Addr × List D)} (h : ρ[i]? = some (.ot (LL l rs))) : ∃ L', Env c P L' n H σ (ρ.set i (.val (.lst (rs.map fun r => .lst r.2)))) ∧ L'.Sublist L := by
  obtain ⟨Ls, sl, sb⟩ := E.slots
  obtain ⟨L1, L2, v, h1, h2, ⟨t1, t2, t3⟩, h4⟩ := sl.otAt h
  subst t1
  have nd := sb.nodup E.nd
  rw [h1] at nd
  have d1 := List.nodup_append.mp nd
  have d2 := List.nodup_append.mp d1.2.1
  have nin : ∀ a ∈ (LL l rs).ls, a ∉ L.filter (fun x => !decide (x ∈ (LL l rs).ls)) := fun a ha q => by
    have := (List.mem_filter.mp q).2
    simp [ha] at this
  have inL : ∀ a ∈ (LL l rs).ls, a ∈ L := fun a ha => sb.subset (by rw [h1]; exact List.mem_append_right _ (List.mem_append_left _ ha))
  have sub : (L.filter (fun x => !decide (x ∈ (LL l rs).ls))).Sublist L := List.filter_sublist
  have nO : ∀ a ∈ (LL l rs).ls, a ∉ L.filter (fun x => !decide (x ∈ (LL l rs).ls)) ++ c.O := fun a ha q => by
    rcases List.mem_append.mp q with q | q
    · exact nin a ha q
    · exact (E.fresh a (inL a ha)).2 q
  have se : Same (hid (L ++ c.O) H) (hid (L.filter (fun x => !decide (x ∈ (LL l rs).ls)) ++ c.O) H) := same_hid_sub fun a ha => by
    rcases List.mem_append.mp ha with q | q
    · exact List.mem_append_left _ (sub.subset q)
    · exact List.mem_append_right _ q
  have sb2 : (L1 ++ L2).Sublist (L.filter (fun x => !decide (x ∈ (LL l rs).ls))) := by
    have q := sb.filter (fun x => !decide (x ∈ (LL l rs).ls))
    rw [h1, List.filter_append, List.filter_append] at q
    have e1 : L1.filter (fun x => !decide (x ∈ (LL l rs).ls)) = L1 := List.filter_eq_self.mpr fun a ha => by
      have : a ∉ (LL l rs).ls := fun z => d1.2.2 a ha a (List.mem_append_left _ z) rfl
      simp [this]
    have e2 : L2.filter (fun x => !decide (x ∈ (LL l rs).ls)) = L2 := List.filter_eq_self.mpr fun a ha => by
      have : a ∉ (LL l rs).ls := fun z => d2.2.2 a z a ha rfl
      simp [this]
    have e3 : (LL l rs).ls.filter (fun x => !decide (x ∈ (LL l rs).ls)) = [] := List.filter_eq_nil_iff.mpr fun a ha => by simp [ha]
    rw [e1, e2, e3] at q
    exact q
  refine ⟨_, { nd := sub.nodup E.nd, fresh := fun l hl => E.fresh l (sub.subset hl), slots := ⟨_, (h4 _ _ (fun _ _ => rfl) se).2 _ (.lst (.inl (by rw [hid_out (nO l List.mem_cons_self)]; exact t2)) ?_), sb2⟩, lst := fun l hl => E.lst l (sub.subset hl), base := E.base, pers := E.pers.trans se, bO := E.bO, al := E.al, bag := E.bag }, sub⟩
  have gen : ∀ us : List (Addr × List D), (∀ r ∈ us, r ∈ rs) → RpAll c.K (hid (L.filter (fun x => !decide (x ∈ (LL l rs).ls)) ++ c.O) H) (us.map fun r => V.ref r.1) (us.map fun r => D.lst r.2) := by
    intro us
    induction us with
    | nil => intro _; exact .nil
    | cons r us ih =>
      intro hu
      obtain ⟨xs, g1, g2⟩ := t3 r (hu r List.mem_cons_self)
      exact .cons (.lst (.inl (by rw [hid_out (nO r.1 (List.mem_cons_of_mem _ (List.mem_map_of_mem (hu r List.mem_cons_self))))]; exact g1)) (g2.mono se)) (ih fun q hq => hu q (List.mem_cons_of_mem _ hq))
  exact gen rs fun _ h => h
end
section
variable {c : Ctx} {ρ : List SD} {n : Nat} {ta tb te tk tj : TE} {t u : TT} {as : TA} {Φ : Nat → D → Prop} {Ψ : Out} {ts us : TS}
theorem ws_freezeLL (i : Nat) {l : Addr} {rs : List (Addr × List D)} (h : ρ[i]? = some (.ot (LL l rs))) (k : WS c ts (ρ.set i (.val (.lst (rs.map fun r => .lst r.2)))) n Ψ) : WS c ts ρ n Ψ := fun P L σ H Dn E A => by
  obtain ⟨L', E', _⟩ := E.otFreeze h
  exact k P L' σ H Dn E' A
theorem wt_lookLL (i : Nat) {Φ : Nat → Bool → Prop} {l : Addr} {rs : List (Addr × List D)} (h : ρ[i]? = some (.ot (LL l rs))) (k : WT c t (ρ.set i (.val (.lst (rs.map fun r => .lst r.2)))) n Φ) : WT c t ρ n Φ := fun P L σ H Q E q => by
  obtain ⟨L', E', sub⟩ := E.otFreeze h
  exact k P L' σ H Q E' fun b n1 H1 s1 j1 k1 => q b n1 H1 s1 j1 k1
theorem we_lookLL (i : Nat) {l : Addr} {rs : List (Addr × List D)} (h : ρ[i]? = some (.ot (LL l rs))) (k : WE c te (ρ.set i (.val (.lst (rs.map fun r => .lst r.2)))) n fun n1 d => scalar d = true ∧ Φ n1 d) : WE c te ρ n Φ := fun P L σ H Q E q => by
  obtain ⟨L', E', sub⟩ := E.otFreeze h
  exact k P L' σ H Q E' fun v d n1 H1 s1 j1 r1 ⟨hs, k1⟩ => q v d n1 H1 s1 j1 (r1.scal hs) k1
/-- an own list without items, read as a list of lists -/
theorem ws_toLL (i : Nat) (h : ρ[i]? = some (.own [])) (k : ∀ l, WS c ts (ρ.set i (.ot (LL l []))) n Ψ) : WS c ts ρ n Ψ := fun P L σ H Dn E A => by
  obtain ⟨Ls, sl, sb⟩ := E.slots
  obtain ⟨l, xs, h1, h2, h3, h4⟩ := sl.own2ot h
  cases h3
  refine k l P L σ H Dn (E.reslot (h4 (LL l []) rfl ⟨rfl, h2, fun r hr => nomatch hr⟩) sb) A
/-- one row more -/
theorem ws_llapp {i : Nat} {l : Addr} {rs : List (Addr × List D)} (h0 : ρ[i]? = some (.ot (LL l rs))) (h : WF c te ρ n fun n1 ds => rs.length < sizeLine ∧ ∀ p, Ψ.nx n1 (ρ.set i (.ot (LL l (rs ++ [(p, ds)]))))) : WS c (tDrop (tBM c.K "list" rAppend (tVar i) (tCons te tNil))) ρ n Ψ := fun P L σ H Dn E A => by
  obtain ⟨v, h1, ⟨t1, t2, t3⟩, _, _⟩ := E.ot h0
  subst t1
  refine ⟨.ref l, h1, .inl ⟨rfl, _, .inl (.inl t2)⟩, ?_⟩
  refine h P L σ H _ E fun p xs ds n1 H1 s1 hp g1 r1 j1 ⟨hz, k⟩ => ?_
  have E1 := E.absorb s1 j1 hp g1
  obtain ⟨Ls, sl, sb⟩ := E1.slots
  obtain ⟨L1, L2, v2, q1, q2, ⟨u1, u2, u3⟩, q4⟩ := sl.otAt h0
  subst u1
  refine ⟨l, _, .ref p, rfl, rfl, u2, by simpa using hz, ?_⟩
  obtain ⟨Ls0, sl0, sb0⟩ := E.slots
  obtain ⟨M1, M2, w2, m1, m2, ⟨x1, x2, x3⟩, m4⟩ := sl0.otAt h0
  have eL : Ls = Ls0 := sl.inj sl0
  subst eL
  have sb1 : Ls.Sublist L := sb0
  have lL : l ∈ L := sb1.subset (by rw [q1]; exact List.mem_append_right _ (List.mem_append_left _ List.mem_cons_self))
  have np : p ∉ L := (E.new hp).2.2
  have hpl : p ≠ l := fun z => np (z ▸ lL)
  have nd := sb1.nodup E.nd
  rw [q1] at nd
  have d1 := List.nodup_append.mp nd
  have d2 := List.nodup_append.mp d1.2.1
  have hm : l ∈ (p :: L) ++ c.O := List.mem_append_left _ (List.mem_cons_of_mem _ lL)
  have hO : l ∉ c.O := (E.fresh l lL).2
  have out : ∀ x ∈ L1 ++ L2, x ≠ l := fun x hx q => by
    subst q
    rcases List.mem_append.mp hx with z | z
    · exact d1.2.2 _ z _ (List.mem_append_left _ List.mem_cons_self) rfl
    · exact d2.2.2 _ List.mem_cons_self _ z rfl
  have rl : ∀ r ∈ rs, r.1 ≠ l := fun r hr z => by
    have : l ∉ rs.map (·.1) := (List.nodup_cons.mp d2.1).1
    exact this (z ▸ List.mem_map_of_mem hr)
  have t' : (LL l (rs ++ [(p, ds)])).R c.pr c.wd c.K ((p :: L) ++ c.O) (upd H1 l (.lst (rs.map (fun r => V.ref r.1) ++ [.ref p]))) (.ref l) := by
    refine ⟨rfl, by rw [upd_same, List.map_append]; rfl, fun r hr => ?_⟩
    rw [hid_upd_in hm]
    rcases List.mem_append.mp hr with q | q
    · obtain ⟨xs, y1, y2⟩ := u3 r q
      exact ⟨xs, by rw [upd_ne (rl r q)]; exact y1, y2⟩
    · have : r = (p, ds) := by simpa using q
      subst this
      exact ⟨xs, by rw [upd_ne hpl]; exact g1, r1⟩
  have z := (q4 ((p :: L) ++ c.O) (upd H1 l (.lst (rs.map (fun r => V.ref r.1) ++ [.ref p]))) (fun x hx => upd_ne (out x hx)) (by rw [hid_upd_in hm]; exact Same.refl _)).1 _ t'
  have e : L1 ++ ((LL l (rs ++ [(p, ds)])).ls ++ L2) = (L1 ++ (LL l rs).ls) ++ p :: L2 := by
    show L1 ++ (l :: (rs ++ [(p, ds)]).map (·.1) ++ L2) = _
    rw [List.map_append]
    show _ = L1 ++ (l :: rs.map (·.1)) ++ p :: L2
    simp
  rw [e] at z
  obtain ⟨Lp, sLp, pLp⟩ := ins_sub (p := p) (L1 := L1 ++ (LL l rs).ls) (L2 := L2) (L := L) (by rw [List.append_assoc, ← q1]; exact sb1)
  have E2 : Env c P (p :: L) n1 (upd H1 l (.lst (rs.map (fun r => V.ref r.1) ++ [.ref p]))) σ (ρ.set i .un) := by
    have bs : Same (hid c.B c.H0) (hid c.B (upd H1 l (.lst (rs.map (fun r => V.ref r.1) ++ [.ref p])))) := same_upd_old (E.fresh l lL).1 E1.base
    obtain ⟨Lu, su, bu⟩ := sl.drop i
    have nl : (L1 ++ L2).Sublist (p :: L) := (List.Sublist.append_left (List.sublist_append_right _ _) L1).trans (q1 ▸ sb)
    have sv := (q4 ((p :: L) ++ c.O) (upd H1 l (.lst (rs.map (fun r => V.ref r.1) ++ [.ref p]))) (fun x hx => upd_ne (out x hx)) (by rw [hid_upd_in hm]; exact Same.refl _)).2 (.adr l) (.adr l)
    obtain ⟨Lv, sv2, bv⟩ := sv.drop i
    rw [List.set_set] at sv2
    exact { nd := E1.nd, fresh := E1.fresh, slots := ⟨Lv, sv2, bv.trans nl⟩,
            lst := fun a ha => by
              by_cases e : a = l
              · exact ⟨_, by rw [e, upd_same]⟩
              · rw [upd_ne e]; exact E1.lst a ha,
            bag := fun b q hb => (E1.bag b q hb).move (fun o h => by rw [upd_ne fun e : b = l => hO (e ▸ (E.bO b q hb).1)]; exact h) fun o h => by rw [upd_ne fun e : q = l => hO (e ▸ (E.bO b q hb).2.1)]; exact h,
            base := bs, pers := by rw [hid_upd_in hm]; exact E1.pers, bO := E.bO,
            al := fun o ho => by rw [upd_ne fun e : o = l => hO (e ▸ ho)]; exact E1.al o ho }
  exact A.nx Lp n1 _ σ _ (E2.perm pLp z sLp) (k p)
theorem ixNN {m k : Nat} (h : k < m) : ixN m (k : Int) = some k := by
  unfold ixN
  rw [if_pos (by omega), if_pos (by omega)]; simp
theorem atIN {α : Type} {xs : List α} {k : Nat} {x : α} (h : xs[k]? = some x) : atI xs (k : Int) = some x := by
  have hk : k < xs.length := by
    rcases Nat.lt_or_ge k xs.length with q | q
    · exact q
    · rw [List.getElem?_eq_none q] at h; cases h
  unfold atI
  rw [ixNN hk]
  exact h
/-- x[i][j] -/
theorem we_llget {i : Nat} {l : Addr} {rs : List (Addr × List D)} (h0 : ρ[i]? = some (.ot (LL l rs))) (h : WE c tk ρ n fun n1 kd => ∃ (k : Nat) (p : Addr) (row : List D), kd = .int (k : Int) ∧ rs[k]? = some (p, row) ∧ WE c tj ρ n1 fun n2 jd => ∃ (j : Nat) (d : D), jd = .int (j : Int) ∧ row[j]? = some d ∧ Φ n2 d) : WE c (tOp (rIx c.K) (tOp (rIx c.K) (tVar i) tk) tj) ρ n Φ := fun P L σ H Q E q => by
  obtain ⟨v, h1, ⟨t1, t2, t3⟩, _, _⟩ := E.ot h0
  subst t1
  refine ⟨.ref l, h1, ?_⟩
  refine h P L σ H _ E fun kv kd n1 H1 s1 j1 r1 ⟨k, p, row, e1, e2, h2⟩ => ?_
  subst e1
  cases r1
  have E1 := E.step s1 j1
  obtain ⟨v, g1, ⟨u1, u2, u3⟩, _, _⟩ := E1.ot h0
  subst u1
  refine .inl ⟨l, _, (k : Int), .ref p, rfl, rfl, .inl (.inl u2), atIN (by rw [List.getElem?_map, e2]; rfl), ?_⟩
  refine h2 P L σ H1 _ E1 fun jv jd n2 H2 s2 j2 r2 ⟨j, d, e3, e4, kk⟩ => ?_
  subst e3
  cases r2
  have E2 := E1.step s2 j2
  obtain ⟨v, f1, ⟨w1, w2, w3⟩, _, _⟩ := E2.ot h0
  obtain ⟨xs, x1, x2⟩ := w3 (p, row) (List.mem_of_getElem? e2)
  obtain ⟨x, y1, y2⟩ := x2.get' e4
  exact .inl ⟨p, xs, (j : Int), x, rfl, rfl, .inl (.inl x1), atIN y1, q x d n2 H2 (s1.trans s2) j2 y2 kk⟩
/-- x[i][j] = e -/
theorem ws_llset {i : Nat} {l : Addr} {rs : List (Addr × List D)} (h0 : ρ[i]? = some (.ot (LL l rs))) (h : WE c te ρ n fun n1 vd => WE c tk ρ n1 fun n2 kd => ∃ (k : Nat) (p : Addr) (row : List D), kd = .int (k : Int) ∧ rs[k]? = some (p, row) ∧ WE c tj ρ n2 fun n3 jd => ∃ j : Nat, jd = .int (j : Int) ∧ j < row.length ∧ Ψ.nx n3 (ρ.set i (.ot (LL l (rs.set k (p, row.set j vd)))))) : WS c (tAsg te (gSub (tOp (rIx c.K) (tVar i) tk) tj rSetL)) ρ n Ψ := fun P L σ H Dn E A => by
  refine h P L σ H _ E fun y vd n1 H1 s1 j1 r1 h1 => ?_
  have E1 := E.step s1 j1
  obtain ⟨v, a1, ⟨t1, t2, t3⟩, _, _⟩ := E1.ot h0
  subst t1
  refine ⟨.ref l, a1, ?_⟩
  refine h1 P L σ H1 _ E1 fun kv kd n2 H2 s2 j2 r2 ⟨k, p, row, e1, e2, h2⟩ => ?_
  subst e1
  cases r2
  have E2 := E1.step s2 j2
  obtain ⟨v, g1, ⟨u1, u2, u3⟩, _, _⟩ := E2.ot h0
  subst u1
  refine .inl ⟨l, _, (k : Int), .ref p, rfl, rfl, .inl (.inl u2), atIN (by rw [List.getElem?_map, e2]; rfl), ?_⟩
  refine h2 P L σ H2 _ E2 fun jv jd n3 H3 s3 j3 r3 ⟨j, e3, hj, kk⟩ => ?_
  subst e3
  cases r3
  have E3 := E2.step s3 j3
  obtain ⟨v, f1, ⟨w1, w2, w3⟩, inL, nd⟩ := E3.ot h0
  subst w1
  have pm : (p, row) ∈ rs := List.mem_of_getElem? e2
  obtain ⟨xs, x1, x2⟩ := w3 (p, row) pm
  refine ⟨p, xs, (j : Int), j, rfl, rfl, x1, ixNN (by rw [x2.length]; exact hj), ?_⟩
  have hk : k < rs.length := by
    rcases Nat.lt_or_ge k rs.length with q | q
    · exact q
    · rw [List.getElem?_eq_none q] at e2; cases e2
  have mapset : (rs.set k (p, row.set j vd)).map (·.1) = rs.map (·.1) := by
    rw [List.map_set]
    apply List.ext_getElem?
    intro m
    rw [List.getElem?_set]
    by_cases hm : k = m
    · subst hm
      rw [if_pos rfl, if_pos (by simpa using hk), List.getElem?_map, e2]; rfl
    · rw [if_neg hm]
  have pl : (LL l rs).ls = l :: rs.map (·.1) := rfl
  rw [pl] at nd
  have np : p ≠ l := fun z => (List.nodup_cons.mp nd).1 (z ▸ List.mem_map_of_mem pm)
  have pin : p ∈ (LL l rs).ls := List.mem_cons_of_mem _ (List.mem_map_of_mem pm)
  have hm : p ∈ L ++ c.O := List.mem_append_left _ (inL p pin)
  refine A.nx L n3 _ σ _ (E3.otUpd (T' := LL l (rs.set k (p, row.set j vd))) h0 pin (by show l :: (rs.set k (p, row.set j vd)).map (·.1) = l :: rs.map (·.1); rw [mapset]) f1 ⟨rfl, ?_, fun r hr => ?_⟩) kk
  · rw [upd_ne np.symm]
    have e : (rs.set k (p, row.set j vd)).map (fun r => V.ref r.1) = rs.map fun r => V.ref r.1 := by
      have := congrArg (List.map V.ref) mapset
      rw [List.map_map, List.map_map] at this
      exact this
    rw [e]; exact w2
  · rw [hid_upd_in hm]
    have rv : Rp c.K (hid (L ++ c.O) H3) y vd := ((r1.mono (E1.sameLO s2)).mono (E2.sameLO s3))
    by_cases hr1 : r.1 = p
    · have : r = (p, row.set j vd) := by
        obtain ⟨m, hm2⟩ := List.mem_iff_getElem?.mp hr
        rw [List.getElem?_set] at hm2
        by_cases q : k = m
        · subst q
          rw [if_pos rfl, if_pos hk] at hm2
          exact (Option.some.inj hm2).symm
        · rw [if_neg q] at hm2
          exfalso
          have nd2 := (List.nodup_cons.mp nd).2
          have hml : m < rs.length := by
            rcases Nat.lt_or_ge m rs.length with z | z
            · exact z
            · rw [List.getElem?_eq_none z] at hm2; cases hm2
          have a1 : (rs.map (·.1))[k]? = some p := by rw [List.getElem?_map, e2]; rfl
          have a2 : (rs.map (·.1))[m]? = some p := by rw [List.getElem?_map, hm2]; show some r.1 = _; rw [hr1]
          have := (List.getElem?_inj (by simpa using hk) nd2).mp (a1.trans a2.symm)
          exact q this
      subst this
      exact ⟨xs.set j y, upd_same, x2.set rv j⟩
    · have hr2 : r ∈ rs := by
        obtain ⟨m, hm2⟩ := List.mem_iff_getElem?.mp hr
        rw [List.getElem?_set] at hm2
        by_cases q : k = m
        · subst q
          rw [if_pos rfl, if_pos hk] at hm2
          cases hm2
          exact absurd rfl hr1
        · rw [if_neg q] at hm2
          exact List.mem_of_getElem? hm2
      obtain ⟨zs, z1, z2⟩ := w3 r hr2
      exact ⟨zs, by rw [upd_ne hr1]; exact z1, z2⟩
end
end L3
/-! L6b: defs that give or take a list of lists of one's own. -/
namespace L3
open PySem L2
abbrev SpecT := Option (Addr × Addr) → Nat → List D → (Nat → List (List D) → Prop) → Prop
def spT (pr : Program) (wd : World) (K : PySem.W.Frag) (S : SpecT) : Sp := fun vs H Q _ => ∃ (O : List Addr) (bag : Option (Addr × Addr)) (n : Nat) (ds : List D) (Φ : Nat → List (List D) → Prop),
  (∀ b q, bag = some (b, q) → BagOk b q n H ∧ b ∈ O ∧ q ∈ O ∧ q ≠ b) ∧ (∀ o ∈ O, H o ≠ none) ∧ RpAll K (hid O H) vs ds ∧ S bag n ds Φ ∧
  ∀ l rs n' H', Same (hid (bag.map (·.1)).toList H) (hid (bag.map (·.1)).toList H') → (∀ b q, bag = some (b, q) → BagOk b q n' H') → (∀ a ∈ (LL l rs).ls, H a = none) → (LL l rs).ls.Nodup → (LL l rs).R pr wd K ((LL l rs).ls ++ O) H' (.ref l) → Φ n' (rs.map (·.2)) → Q (.ref l) H'
abbrev SpecS := Option (Addr × Addr) → Nat → List D → List (List D) → (Nat → D → Prop) → Prop
def spS (pr : Program) (wd : World) (K : PySem.W.Frag) (S : SpecS) : Sp := fun vs H Q _ => ∃ (O : List Addr) (bag : Option (Addr × Addr)) (n : Nat) (us : List V) (ds : List D) (l : Addr) (rs : List (Addr × List D)) (Φ : Nat → D → Prop),
  (∀ b q, bag = some (b, q) → BagOk b q n H ∧ b ∈ O ∧ q ∈ O ∧ q ≠ b) ∧ (∀ o ∈ O, H o ≠ none) ∧ vs = us ++ [.ref l] ∧ RpAll K (hid ((LL l rs).ls ++ O) H) us ds ∧ (LL l rs).ls.Nodup ∧ (∀ a ∈ (LL l rs).ls, a ∉ O) ∧ (LL l rs).R pr wd K ((LL l rs).ls ++ O) H (.ref l) ∧ S bag n ds (rs.map (·.2)) Φ ∧
  ∀ v d n' H', Same (hid ((bag.map (·.1)).toList ++ (LL l rs).ls) H) (hid ((bag.map (·.1)).toList ++ (LL l rs).ls) H') → (∀ b q, bag = some (b, q) → BagOk b q n' H') → Rp K (hid O H') v d → Φ n' d → Q v H'
/-- statements that end by giving a list of lists -/
def WST (c : Ctx) (ts : TS) (ρ : List SD) (n : Nat) (Φ : Nat → List (List D) → Prop) : Prop := ∀ P L σ H Dn, Env c P L n H σ ρ →
  (∀ l rs n' H', Same (hid c.B c.H0) (hid c.B H') → c.J n' H' → (∀ a ∈ (LL l rs).ls, c.H0 a = none) → (LL l rs).ls.Nodup → (LL l rs).R c.pr c.wd c.K ((LL l rs).ls ++ c.O) H' (.ref l) → Φ n' (rs.map (·.2)) → Dn.rt (.ref l) H') → ts Dn σ H
/-- a new list of lists -/
def WTr (c : Ctx) (te : TE) (ρ : List SD) (n : Nat) (Φ : Nat → List (List D) → Prop) : Prop := ∀ P L σ H Q, Env c P L n H σ ρ →
  (∀ l rs n' H', Same (hid c.B H) (hid c.B H') → c.J n' H' → (∀ a ∈ (LL l rs).ls, H a = none) → (LL l rs).ls.Nodup → (LL l rs).R c.pr c.wd c.K ((LL l rs).ls ++ (L ++ c.O)) H' (.ref l) → Φ n' (rs.map (·.2)) → Q (.ref l) H') → te σ H Q
section
variable {c : Ctx} {ρ : List SD} {n : Nat} {ta te tt : TE} {as : TA} {Φ : Nat → D → Prop} {ts us : TS}
theorem wst_seq {Φ : Nat → List (List D) → Prop} (h : WS c ts ρ n { nx := fun n1 ρ1 => WST c us ρ1 n1 Φ, rt := fun _ _ => False }) : WST c (tSeq ts us) ρ n Φ := fun P L σ H Dn E A =>
  h P L σ H _ E { nx := fun L' n1 H1 σ1 ρ1 E1 k => k P L' σ1 H1 Dn E1 A, rt := fun _ _ _ _ _ _ _ k => k.elim, bk := fun _ _ _ _ _ _ k => k.elim, ct := fun _ _ _ _ _ _ k => k.elim }
theorem wst_ret {Φ : Nat → List (List D) → Prop} {i : Nat} {l : Addr} {rs : List (Addr × List D)} (h0 : ρ[i]? = some (.ot (LL l rs))) (k : Φ n (rs.map (·.2))) : WST c (tRet (tVar i)) ρ n Φ := fun P L σ H Dn E A => by
  obtain ⟨v, h1, t, inL, nd⟩ := E.ot h0
  have e := t.1
  subst e
  refine ⟨.ref l, h1, A l rs n H E.base E.bag (fun a ha => (E.fresh a (inL a ha)).1) nd (OT.mv _ t (fun _ _ => rfl) fun _ _ r => r.mono (same_hid_sub fun a ha => ?_)) k⟩
  rcases List.mem_append.mp ha with q | q
  · exact List.mem_append_left _ (inL a q)
  · exact List.mem_append_right _ q
theorem wtr_call {S : SpecT} {XE : XK} {Φ : Nat → List (List D) → Prop} (h : WA c as ρ n fun n1 ds => S c.bag n1 ds Φ) : WTr c (tCall (spT c.pr c.wd c.K S) [] XE as) ρ n Φ := fun P L σ H Q E q => by
  refine h P L σ H _ E fun vs ds n1 H1 s1 j1 r1 k => ?_
  have E1 := E.step s1 j1
  refine ⟨L ++ c.O, c.bag, n1, ds, Φ, fun b q hb => ⟨j1 b q hb, List.mem_append_right _ (E.bO b q hb).1, List.mem_append_right _ (E.bO b q hb).2.1, (E.bO b q hb).2.2⟩, E1.alLO, by rw [List.append_nil]; exact r1, k, fun l rs n2 H2 s2 j2 f nd t kk => ?_⟩
  exact q l rs n2 H2 (s1.trans s2) j2 (fun a ha => E.noneB s1 j1 (f a ha)) nd t kk
theorem we_callS {S : SpecS} {XE : XK} (h : WE c ta ρ n fun n1 d => WTr c tt ρ n1 fun n2 rows => S c.bag n2 [d] rows Φ) : WE c (tCall (spS c.pr c.wd c.K S) [] XE (tCons ta (tCons tt tNil))) ρ n Φ := fun P L σ H Q E q => by
  refine h P L σ H _ E fun x d n1 H1 s1 j1 r1 h1 => ?_
  have E1 := E.step s1 j1
  refine h1 P L σ H1 _ E1 fun l rs n2 H2 s2 j2 f nd t k => ?_
  have E2 := E1.step s2 j2
  have sm : Same (hid (L ++ c.O) H1) (hid ((LL l rs).ls ++ (L ++ c.O)) H2) := fun a o e => by
    obtain ⟨e1, e2⟩ := hid_some.mp e
    refine hid_some.mpr ⟨fun z => ?_, (hid_some.mp (E1.sameLO s2 a o e)).2⟩
    rcases List.mem_append.mp z with z | z
    · rw [f a z] at e2; cases e2
    · exact e1 z
  refine ⟨L ++ c.O, c.bag, n2, [x], [d], l, rs, Φ, fun b q hb => ⟨j2 b q hb, List.mem_append_right _ (E.bO b q hb).1, List.mem_append_right _ (E.bO b q hb).2.1, (E.bO b q hb).2.2⟩, E2.alLO, rfl, .cons (r1.mono sm) .nil, nd, fun a ha => E1.noO a (f a ha), t, k, fun v d n3 H3 s3 j3 r3 kk => ?_⟩
  refine q v d n3 H3 (s1.trans fun a o e => ?_) j3 r3 kk
  obtain ⟨e1, e2⟩ := hid_some.mp e
  have e3 := (hid_some.mp (s2 a o e)).2
  refine hid_some.mpr ⟨e1, (hid_some.mp (s3 a o (hid_some.mpr ⟨fun z => ?_, e3⟩))).2⟩
  rcases List.mem_append.mp z with z | z
  · exact e1 z
  · rw [f a z] at e2; cases e2
end
section
variable {P : Program} {w : World} {K : PySem.W.Frag} {mg : Str → Option Value} {base : Heap}
/-- a def that gives a list of lists of its own -/
theorem fn_T {x qual : Str} {st : Stmt} {f : Addr} {fd : FuncData} {N ps : List Str} {k : Nat} {S : SpecT} (F : Fun K x qual st f fd) (sc : FnScope N ps (defScope st))
    (len : ∀ bag n ds Φ, S bag n ds Φ → ds.length = ps.length)
    (body : ∀ (cdv : Value) (A : Around) (outer : List PySem.Env) (s : Shared) (H : Hp) (E : XK) (O : List Addr) (bag : Option (Addr × Addr)) (n : Nat) (ds : List D) (Φ : Nat → List (List D) → Prop), Room k (A.deeper (PyProof.Rows.envOfC qual (defScope st) s.heap.objs.size f cdv)) → S bag n ds Φ →
      ∃ t, PSs (cxOf CX0 P w K mg base N qual (defScope st) f cdv A outer s H E).nox (defBody st) t ∧ WST ⟨P, w, K, O, bag, H⟩ t (rho N ds) n Φ) :
    FnOk P w K mg base CX0 (k + 1) f fd ps (spT P w K S) := by
  refine F.ok sc (fun vs H Q E h => ?_) (fun cdv A outer s H vs Q E hr h => ?_)
  · obtain ⟨O, bag, n, ds, Φ, _, _, r, hS, _⟩ := h
    rw [r.length]; exact len bag n ds Φ hS
  · obtain ⟨O, bag, n, ds, Φ, hb, hO, r, hS, q⟩ := h
    obtain ⟨t, ht, W⟩ := body cdv A outer s H E O bag n ds Φ hr hS
    refine ⟨t, ht, W (fun _ => none) [] _ H _ ?_ ?_⟩
    · have e : L2.start N vs = vs.map some ++ List.replicate (N.length - ds.length) none := by unfold L2.start; rw [r.length]
      exact { nd := List.nodup_nil, fresh := (fun l hl => nomatch hl), slots := ⟨[], by rw [e]; exact slots_start r, List.Sublist.refl _⟩, lst := (fun l hl => nomatch hl), bag := fun b q e => (hb b q e).1, base := Same.refl _,
              pers := (fun _ _ e => nomatch e), bO := fun b q e => (hb b q e).2, al := hO }
    · exact fun l rs n' H' s j f nd t k => q l rs n' H' s j f nd t k
theorem slots_startS {pr : Program} {wd : World} {O : List Addr} {H : Hp} {m : Nat} {T : OT} {v : V} (t : T.R pr wd K O H v) : ∀ {vs : List V} {ds : List D}, RpAll K (hid O H) vs ds → Slots pr wd K O H ((vs ++ [v]).map some ++ List.replicate m none) (ds.map SD.val ++ .ot T :: List.replicate m .un) T.ls
  | _, _, .nil => .ot t (List.append_nil _).symm (slots_un m)
  | _, _, .cons h r => .val h (slots_startS t r)
/-- a def whose last argument is a list of lists that it may change -/
theorem fn_S {x qual : Str} {st : Stmt} {f : Addr} {fd : FuncData} {N ps : List Str} {k : Nat} {S : SpecS} (F : Fun K x qual st f fd) (sc : FnScope N ps (defScope st))
    (len : ∀ bag n ds rows Φ, S bag n ds rows Φ → ds.length + 1 = ps.length)
    (body : ∀ (cdv : Value) (A : Around) (outer : List PySem.Env) (s : Shared) (H : Hp) (E : XK) (O : List Addr) (bag : Option (Addr × Addr)) (n : Nat) (ds : List D) (l : Addr) (rs : List (Addr × List D)) (Φ : Nat → D → Prop), Room k (A.deeper (PyProof.Rows.envOfC qual (defScope st) s.heap.objs.size f cdv)) → S bag n ds (rs.map (·.2)) Φ →
      ∃ t, PSs (cxOf CX0 P w K mg base N qual (defScope st) f cdv A outer s H E).nox (defBody st) t ∧ WS ⟨P, w, K, O, bag, hid (LL l rs).ls H⟩ t (ds.map SD.val ++ .ot (LL l rs) :: List.replicate (N.length - (ds.length + 1)) .un) n { nx := fun n' _ => Φ n' .non, rt := Φ }) :
    FnOk P w K mg base CX0 (k + 1) f fd ps (spS P w K S) := by
  refine F.ok sc (fun vs H Q E h => ?_) (fun cdv A outer s H vs Q E hr h => ?_)
  · obtain ⟨O, bag, n, us, ds, l, rs, Φ, _, _, e, r, _, _, _, hS, _⟩ := h
    rw [e, List.length_append, r.length]; exact len bag n ds _ Φ hS
  · obtain ⟨O, bag, n, us, ds, l, rs, Φ, hb, hO, e, r, nd, no, t, hS, q⟩ := h
    obtain ⟨tt, ht, W⟩ := body cdv A outer s H E O bag n ds l rs Φ hr hS
    subst e
    have bs : Same (hid (bag.map (·.1)).toList (hid (LL l rs).ls H)) (hid (bag.map (·.1)).toList H) := fun a o e => by
      obtain ⟨e1, e2⟩ := hid_some.mp e
      exact hid_some.mpr ⟨e1, (hid_some.mp e2).2⟩
    have fin : ∀ v d n' H', Same (hid (bag.map (·.1)).toList (hid (LL l rs).ls H)) (hid (bag.map (·.1)).toList H') → (∀ b q, bag = some (b, q) → BagOk b q n' H') → Rp K (hid O H') v d → Φ n' d → Q v H' := fun v d n' H' s j r k => q v d n' H' (fun a o e => by
      obtain ⟨e1, e2⟩ := hid_some.mp e
      have z := s a o (hid_some.mpr ⟨fun z => e1 (List.mem_append_left _ z), hid_some.mpr ⟨fun z => e1 (List.mem_append_right _ z), e2⟩⟩)
      exact hid_some.mpr ⟨e1, (hid_some.mp z).2⟩) j r k
    refine ⟨tt, ht, W (fun _ => none) (LL l rs).ls _ H _ ?_ ?_⟩
    · have e : L2.start N (us ++ [.ref l]) = (us ++ [V.ref l]).map some ++ List.replicate (N.length - (ds.length + 1)) none := by unfold L2.start; rw [List.length_append, r.length]; rfl
      exact { nd := nd, fresh := fun a ha => ⟨hid_in ha, no a ha⟩, slots := ⟨_, by rw [e]; exact slots_startS t r, List.Sublist.refl _⟩, lst := fun a ha => OT.ex _ t a ha, bag := fun b q e => (hb b q e).1, base := bs,
              pers := (fun _ _ e => nomatch e), bO := fun b q e => (hb b q e).2, al := hO }
    · exact { nx := fun L n' H' σ ρ E k => fin .non .non n' H' E.base (fun b q e => E.bag b q e) .non k,
              rt := fun v d n' H' s j r k => fin v d n' H' s j r k, bk := fun _ _ _ _ _ _ k => k.elim, ct := fun _ _ _ _ _ _ k => k.elim }
end
end L3
/-! L6c: == and != of tuples and lists of instances with an own ==, of any lengths. -/
namespace L3U
open PySem PySem.SeqAt GQ
open AutoSeq1 (wpAny_loadPart')
open MeetsSeq MeetsSeq2
open MeetsSeq3 SeqRoads2
section
variable {prog : Program} {w : World} {A : Around} {R : Result → Shared → Prop}
theorem zipAt {us ws : Array Value} {i : Nat} (hlt : i < (us.toList.zip ws.toList).length) : i < us.size ∧ i < ws.size := by
  simp at hlt
  omega
theorem tupEq (l b : Addr) (us ws : Array Value) (n n2 : Nat) (dd dd2 : Option Addr) (sl sl2 : Array (Option Value)) (J : Nat → Shared → Prop)
    (step : ∀ i (h1 : i < us.size) (h2 : i < ws.size) s, J i s → wpAny (model prog w) A.in1 (eqBool us[i] ws[i]) (fun r s' => r = true ∧ J (i + 1) s') (fun e s' => R (.error e) s') s)
    (last : ∀ s, J (min us.size ws.size) s → R (.ok (.ret (.bool (us.size == ws.size)))) s) {s : Shared} (g1 : s.heap.get? l = some { cls := .type "tuple", dict := dd, data := .seq us n, slots := sl }) (g2 : s.heap.get? b = some { cls := .type "tuple", dict := dd2, data := .seq ws n2, slots := sl2 }) (h : J 0 s) :
    wpAny (model prog w) A.in1 (Builtin.«tuple.__eq__» ⟨[.ref l, .ref b], []⟩) (FinOf prog w A R) (fun e s' => R (.error e) s') s := by
  have f2 := AutoSeq1.sub_tuple_tuple
  have zl : (us.toList.zip ws.toList).length = min us.size ws.size := by simp
  have hz0 := h
  obtain ⟨hp, g, d, tk, os⟩ := s
  wp_walk using wpAny_loadPart' g1, wpAny_loadPart' g2, wpAny_forIn_list _ (fun rs b s' => b.1 = none ∧ ∃ i, rs = (us.toList.zip ws.toList).drop i ∧ i ≤ min us.size ws.size ∧ J i s') _
  case turn =>
    rintro ⟨p, q⟩ rs bb s' ⟨hb', i, hz, hi, hJ⟩
    have lt : i < (us.toList.zip ws.toList).length := by
      rcases Nat.lt_or_ge i (us.toList.zip ws.toList).length with z | z
      · exact z
      · rw [List.drop_of_length_le z] at hz; cases hz
    obtain ⟨h1, h2⟩ := zipAt lt
    rw [List.drop_eq_getElem_cons lt] at hz
    injection hz with e1 e2
    have ep : p = us[i] := by have := congrArg Prod.fst e1; simpa using this
    have eq' : q = ws[i] := by have := congrArg Prod.snd e1; simpa using this
    subst ep eq'
    refine wpAny_bind (wpAny_mono (step i h1 h2 s' hJ) (fun r s2 z => ?_) fun _ _ x => x)
    obtain ⟨hr, z⟩ := z
    subst hr
    wp_walk
    exact ⟨rfl, i + 1, e2, by omega, z⟩
  case fin =>
    rintro ⟨b1, b2⟩ s' ⟨hb', i, hz, hi, hJ⟩
    simp only at hb'
    subst hb'
    have ge : min us.size ws.size ≤ i := by
      rcases Nat.lt_or_ge i (us.toList.zip ws.toList).length with z | z
      · rw [List.drop_eq_getElem_cons z] at hz; cases hz
      · exact zl ▸ z
    have ei : i = min us.size ws.size := by omega
    have hR := last s' (ei ▸ hJ)
    wp_walk
    simpa [Builtin.Tuple.tupleCompareSizes] using hR
  case h =>
    exact ⟨rfl, 0, rfl, Nat.zero_le _, hz0⟩
theorem tupNe (l b : Addr) (us ws : Array Value) (n n2 : Nat) (dd dd2 : Option Addr) (sl sl2 : Array (Option Value)) (J : Nat → Shared → Prop)
    (step : ∀ i (h1 : i < us.size) (h2 : i < ws.size) s, J i s → wpAny (model prog w) A.in1 (eqBool us[i] ws[i]) (fun r s' => r = true ∧ J (i + 1) s') (fun e s' => R (.error e) s') s)
    (last : ∀ s, J (min us.size ws.size) s → R (.ok (.ret (.bool (us.size != ws.size)))) s) {s : Shared} (g1 : s.heap.get? l = some { cls := .type "tuple", dict := dd, data := .seq us n, slots := sl }) (g2 : s.heap.get? b = some { cls := .type "tuple", dict := dd2, data := .seq ws n2, slots := sl2 }) (h : J 0 s) :
    wpAny (model prog w) A.in1 (Builtin.«tuple.__ne__» ⟨[.ref l, .ref b], []⟩) (FinOf prog w A R) (fun e s' => R (.error e) s') s := by
  have f2 := AutoSeq1.sub_tuple_tuple
  have zl : (us.toList.zip ws.toList).length = min us.size ws.size := by simp
  have hz0 := h
  obtain ⟨hp, g, d, tk, os⟩ := s
  wp_walk using wpAny_loadPart' g1, wpAny_loadPart' g2, wpAny_forIn_list _ (fun rs b s' => b.1 = none ∧ ∃ i, rs = (us.toList.zip ws.toList).drop i ∧ i ≤ min us.size ws.size ∧ J i s') _
  case turn =>
    rintro ⟨p, q⟩ rs bb s' ⟨hb', i, hz, hi, hJ⟩
    have lt : i < (us.toList.zip ws.toList).length := by
      rcases Nat.lt_or_ge i (us.toList.zip ws.toList).length with z | z
      · exact z
      · rw [List.drop_of_length_le z] at hz; cases hz
    obtain ⟨h1, h2⟩ := zipAt lt
    rw [List.drop_eq_getElem_cons lt] at hz
    injection hz with e1 e2
    have ep : p = us[i] := by have := congrArg Prod.fst e1; simpa using this
    have eq' : q = ws[i] := by have := congrArg Prod.snd e1; simpa using this
    subst ep eq'
    refine wpAny_bind (wpAny_mono (step i h1 h2 s' hJ) (fun r s2 z => ?_) fun _ _ x => x)
    obtain ⟨hr, z⟩ := z
    subst hr
    wp_walk
    exact ⟨rfl, i + 1, e2, by omega, z⟩
  case fin =>
    rintro ⟨b1, b2⟩ s' ⟨hb', i, hz, hi, hJ⟩
    simp only at hb'
    subst hb'
    have ge : min us.size ws.size ≤ i := by
      rcases Nat.lt_or_ge i (us.toList.zip ws.toList).length with z | z
      · rw [List.drop_eq_getElem_cons z] at hz; cases hz
      · exact zl ▸ z
    have ei : i = min us.size ws.size := by omega
    have hR := last s' (ei ▸ hJ)
    wp_walk
    simpa [Builtin.Tuple.tupleCompareSizes] using hR
  case h =>
    exact ⟨rfl, 0, rfl, Nat.zero_le _, hz0⟩
/-- the loop of != over two lists of N items each -/
theorem neLoop (l b : Addr) (N : Nat) (J : Nat → Shared → Prop) (hl : ListI prog w A (fun e s' => R (.error e) s') l b N J) (last : ∀ s, J N s → R (.ok (.ret (.bool false))) s) (k : Nat) :
    ∀ i : Nat, N - i = k → i ≤ N → ∀ s, J i s → wpAny (model prog w) A.in1 (Builtin.«list.__eq__.loop» ⟨[.ref l, .ref b, rawInt i, rawInt 3], []⟩) (FinOf prog w A R) (fun e s' => R (.error e) s') s := by
  induction k with
  | zero =>
    intro i hk hi s h
    obtain ⟨us, ws, n, n2, g1, g2, z1, z2, _⟩ := hl _ _ h
    have ei : i = N := by omega
    have hR := last s (ei ▸ h)
    obtain ⟨hp, g, d, tk, os⟩ := s
    wp_walk using wpAny_loadPart' g1, wpAny_loadPart' g2
    have n1 : us[((i : Nat) : Int).toNat]? = none := by simp; omega
    have n3 : ws[((i : Nat) : Int).toNat]? = none := by simp; omega
    rw [n1, n3]
    wp_walk using wpAny_loadPart' g1, wpAny_loadPart' g2
    show R (.ok (.ret (.bool (us.size != ws.size)))) _
    rw [z1, z2]
    simpa using hR
  | succ k ih =>
    intro i hk hi s h
    obtain ⟨us, ws, n, n2, g1, g2, z1, z2, step⟩ := hl _ _ h
    have lt1 : i < us.size := by omega
    have lt2 : i < ws.size := by omega
    have st := step lt1 lt2
    obtain ⟨hp, g, d, tk, os⟩ := s
    wp_walk using wpAny_loadPart' g1, wpAny_loadPart' g2
    have n1 : us[((i : Nat) : Int).toNat]? = some us[i] := by simp [lt1]
    have n3 : ws[((i : Nat) : Int).toNat]? = some ws[i] := by simp [lt2]
    have ec : ((i : Int) + 1) = ((i + 1 : Nat) : Int) := by omega
    rw [n1, n3]
    refine wpAny_bind (wpAny_mono st (fun r s2 h2 => ?_) fun _ _ x => x)
    obtain ⟨hr, h2⟩ := h2
    subst hr
    have rec' := ih (i + 1) (by omega) (by omega) s2 h2
    obtain ⟨hp2, g2, d2, tk2, os2⟩ := s2
    wp_walk
    rw [ec]
    exact ⟨plainId_quiet plain_eq_loop _, codeAny_builtin entry_eq_loop (by rw [Around.under_plainId plain_eq_loop _]; exact rec')⟩
theorem listNe (l b : Addr) (N : Nat) (J : Nat → Shared → Prop) (hl : ListI prog w A (fun e s' => R (.error e) s') l b N J) (last : ∀ s, J N s → R (.ok (.ret (.bool false))) s) {s : Shared} (h : J 0 s) :
    wpAny (model prog w) A.in1 (Builtin.«list.__ne__» ⟨[.ref l, .ref b], []⟩) (FinOf prog w A R) (fun e s' => R (.error e) s') s := by
  obtain ⟨us, ws, n, n2, g1, g2, z1, z2, _⟩ := hl _ _ h
  have rec' := neLoop (A := A) (R := R) l b N J hl last _ 0 rfl (Nat.zero_le _) s h
  obtain ⟨hp, g, d, tk, os⟩ := s
  have f3 := AutoSeq1.sub_list_list
  have hne : ¬ (us.size != ws.size) = true := by simp [z1, z2]
  wp_walk using wpAny_loadPart' g1, wpAny_loadPart' g2
  exact ⟨plainId_quiet plain_eq_loop _, codeAny_builtin entry_eq_loop (by rw [Around.under_plainId plain_eq_loop _]; exact rec')⟩
end
section
variable {prog : Program} {w : World} {A : Around} {E : Value → Shared → Prop} {s : Shared}
theorem rcTup {op : CmpOp} {l b : Addr} {us ws : Array Value} {Q : Value → Shared → Prop} (ho : op = .Eq ∨ op = .NotEq) (hu : A.units < cLine) (J : Nat → Shared → Prop) (hl : s.heap.IsTuple l us) (hb : s.heap.IsTuple b ws)
    (step : ∀ i (h1 : i < us.size) (h2 : i < ws.size) s, J i s → wpAny (model prog w) A.in1 (eqBool us[i] ws[i]) (fun r s' => r = true ∧ J (i + 1) s') E s)
    (last : ∀ s, J (min us.size ws.size) s → Q (.bool (if op = .Eq then us.size == ws.size else us.size != ws.size)) s) (h : J 0 s) : wpAny (model prog w) A (richCompare op (.ref l) (.ref b)) Q E s := by
  obtain ⟨⟨c1, dd, da1, sl⟩, o1, e1, n, f1⟩ := id hl
  obtain ⟨⟨c2, dd2, da2, sl2⟩, o2, e2, n2, f2⟩ := id hb
  simp only at e1 f1 e2 f2
  subst e1 f1 e2 f2
  rcases ho with ho | ho
  · subst ho
    refine wpAny_richCompare_same_room (op := .Eq) ⟨_, o1, rfl⟩ ⟨_, o2, rfl⟩ F.slot_tuple_eq (call_here F.slot_tuple_eq ⟨_, o1, rfl⟩ F.entry_tuple_eq (F.args_tuple_eq_2 _ _) ?_) hu
    exact tupEq (R := wants (fun v s' => v ≠ .notImplemented ∧ Q v s') E) l b us ws n n2 dd dd2 sl sl2 J step (fun s' q => ⟨(fun x => nomatch x), by simpa using last s' q⟩) o1 o2 h
  · subst ho
    refine wpAny_richCompare_same_room (op := .NotEq) ⟨_, o1, rfl⟩ ⟨_, o2, rfl⟩ F.slot_tuple_ne (call_here F.slot_tuple_ne ⟨_, o1, rfl⟩ F.entry_tuple_ne (F.args_tuple_ne_2 _ _) ?_) hu
    exact tupNe (R := wants (fun v s' => v ≠ .notImplemented ∧ Q v s') E) l b us ws n n2 dd dd2 sl sl2 J step (fun s' q => ⟨(fun x => nomatch x), by simpa using last s' q⟩) o1 o2 h
theorem rcListNe {l b : Addr} {N : Nat} {Q : Value → Shared → Prop} (hu : A.units < cLine) (J : Nat → Shared → Prop) (hl : ListI prog w A E l b N J)
    (last : ∀ s, J N s → Q (.bool false) s) (h : J 0 s) : wpAny (model prog w) A (richCompare .NotEq (.ref l) (.ref b)) Q E s := by
  obtain ⟨us, ws, n, n2, g1, g2, _, _, _⟩ := hl _ _ h
  refine wpAny_richCompare_same_room (op := .NotEq) ⟨_, g1, rfl⟩ ⟨_, g2, rfl⟩ F.slot_list_ne (call_here F.slot_list_ne ⟨_, g1, rfl⟩ F.entry_list_ne (F.args_list_ne_2 _ _) ?_) hu
  exact listNe (R := wants (fun v s' => v ≠ .notImplemented ∧ Q v s') E) l b N J hl (fun s' q => ⟨(fun x => nomatch x), last s' q⟩) h
end
end L3U

namespace L3
open PySem L2
section
variable {X : Cx} {Dq : Eqv}
/-- item by item, as far as both go -/
def PrsU (Dq : Eqv) (xs ys : List V) (H : Hp) : Prop := ∀ (i : Nat) x y, xs[i]? = some x → ys[i]? = some y → Dq x y H
theorem turnU {m : Nat} (hD : Mon Dq) (h : EqG X m Dq) {A : Around} (sb : Sub X (m + 1) A) {pins : List (Addr × Obj)} {σ : L2.St} {H : Hp} {xs ys : List V} {us ws : List Value} (p : PrsU Dq xs ys H) (r : Vals xs us) (r2 : Vals ys ws)
    (i : Nat) (h1 : i < us.toArray.size) (h2 : i < ws.toArray.size) (s' : Shared) (q : LoopI X pins σ H s') :
    wpAny (model X.prog X.w) A.in1 (eqBool us.toArray[i] ws.toArray[i]) (fun r s2 => r = true ∧ LoopI X pins σ H s2) X.xe s' := by
  obtain ⟨H1, I1, e1⟩ := q
  have l1 : i < us.length := by simpa using h1
  have l2 : i < ws.length := by simpa using h2
  have g1 : us[i]? = some us.toArray[i] := by rw [List.getElem?_eq_getElem l1] <;> simp
  have g2 : ws[i]? = some ws.toArray[i] := by rw [List.getElem?_eq_getElem l2] <;> simp
  obtain ⟨u, hu, ru⟩ := r.get (List.getElem?_eq_getElem (by rw [r.length]; exact l1))
  obtain ⟨v, hv, rv⟩ := r2.get (List.getElem?_eq_getElem (by rw [r2.length]; exact l2))
  rw [g1] at hu
  rw [g2] at hv
  rw [Option.some.inj hu, Option.some.inj hv]
  refine wpAny_mono (h A.in1 pins s' σ H1 _ _ u v sb.in1 I1 ru rv (hD _ _ _ _ e1 (p i _ _ (List.getElem?_eq_getElem _) (List.getElem?_eq_getElem _)))) (fun r s2 z => ?_) fun _ _ x => x
  obtain ⟨hr, H2, I2, e2⟩ := z
  exact ⟨hr, H2, I2, e1.trans e2⟩
/-- == (neg: !=) of two tuples, equal item by item as far as both go -/
def rTupU (K : PySem.W.Frag) (neg : Bool) (Dq : Eqv) : R2 := fun x y H Q => ∃ a b xs ys, x = .ref a ∧ y = .ref b ∧ SqT K H a xs ∧ SqT K H b ys ∧ PrsU Dq xs ys H ∧ ∀ H', Ext H H' → Q (.bl (if neg then xs.length != ys.length else xs.length == ys.length)) H'
theorem op_tupU {m : Nat} (hD : Mon Dq) (h : EqG X m Dq) (hr : Room (m + 1) X.A) (neg : Bool) : OpR X (compareOp (if neg then .NotEq else .Eq)) (rTupU X.K neg Dq) := by
  intro pins s σ H x y v u Q I rx ry hq
  obtain ⟨a, b, xs, ys, rfl, rfl, ha, hb, p, q⟩ := hq
  cases rx
  cases ry
  obtain ⟨us, r, e, z⟩ := I.tuple ha
  obtain ⟨ws, r2, e2, z2⟩ := I.tuple hb
  have sb : Sub X (m + 1) X.A := ⟨hr, rfl⟩
  cases neg with
  | true =>
    show wpAny (model X.prog X.w) X.A (richCompare .NotEq (.ref a) (.ref b)) (EP X pins σ Q) X.xe s
    refine L3U.rcTup (op := .NotEq) (.inr rfl) sb.room.units0 (fun _ s' => LoopI X pins σ H s') e e2 (fun i h1 h2 s' l => turnU hD h sb p r r2 i h1 h2 s' l) (fun s' l => ?_) ⟨H, I, Ext.rfl'⟩
    obtain ⟨H', I', e'⟩ := l
    refine ⟨.bl _, H', I', ?_, q H' e'⟩
    rw [if_pos rfl, if_neg (by decide), List.size_toArray, List.size_toArray, ← r.length, ← r2.length]; rfl
  | false =>
    show wpAny (model X.prog X.w) X.A (richCompare .Eq (.ref a) (.ref b)) (EP X pins σ Q) X.xe s
    refine L3U.rcTup (op := .Eq) (.inl rfl) sb.room.units0 (fun _ s' => LoopI X pins σ H s') e e2 (fun i h1 h2 s' l => turnU hD h sb p r r2 i h1 h2 s' l) (fun s' l => ?_) ⟨H, I, Ext.rfl'⟩
    obtain ⟨H', I', e'⟩ := l
    refine ⟨.bl _, H', I', ?_, q H' e'⟩
    rw [if_neg Bool.false_ne_true, if_pos rfl, List.size_toArray, List.size_toArray, ← r.length, ← r2.length]; rfl
/-- != of two lists, equal item by item -/
def rLstN (Dq : Eqv) : R2 := fun x y H Q => ∃ a b xs ys, x = .ref a ∧ y = .ref b ∧ Rd H a (.lst xs) ∧ Rd H b (.lst ys) ∧ Prs Dq xs ys H ∧ ∀ H', Ext H H' → Q (.bl false) H'
theorem op_lstN {m : Nat} (hD : Mon Dq) (h : EqG X m Dq) (hr : Room (m + 1) X.A) : OpR X (compareOp .NotEq) (rLstN Dq) := by
  intro pins s σ H x y v u Q I rx ry hq
  obtain ⟨a, b, xs, ys, rfl, rfl, ha, hb, p, q⟩ := hq
  cases rx
  cases ry
  have sb : Sub X (m + 1) X.A := ⟨hr, rfl⟩
  show wpAny (model X.prog X.w) X.A (richCompare .NotEq (.ref a) (.ref b)) (EP X pins σ Q) X.xe s
  refine L3U.rcListNe (N := xs.length) sb.room.units0 (fun _ s' => LoopI X pins σ H s') (fun i s' l => ?_) (fun s' l => ?_) ⟨H, I, Ext.rfl'⟩
  · obtain ⟨H1, I1, e1⟩ := id l
    obtain ⟨us, k, r, e, _⟩ := inv_rdL I1 (same_rd e1 ha)
    obtain ⟨ws, k2, r2, e2, _⟩ := inv_rdL I1 (same_rd e1 hb)
    exact ⟨us.toArray, ws.toArray, k, k2, e, e2, by rw [List.size_toArray, ← r.length], by rw [List.size_toArray, ← r2.length, ← p.1], fun h1 h2 => turnU hD h sb p.2 r r2 i h1 h2 s' l⟩
  · obtain ⟨H', I', e'⟩ := l
    exact ⟨.bl false, H', I', rfl, q H' e'⟩
end
section
variable {K : PySem.W.Frag} {C : Addr} {good : List (Str × D) → Prop}
/-- == and != of tuples, != of lists, of instances with an own == -/
def rOwnTU (K : PySem.W.Frag) (neg : Bool) (C : Addr) (good : List (Str × D) → Prop) : R2 := fun x y H Q => ∃ O, rTupU K neg (DIns C (okE2 K O C good)) x y H Q
def rOwnLN (K : PySem.W.Frag) (C : Addr) (good : List (Str × D) → Prop) : R2 := fun x y H Q => ∃ O, rLstN (DIns C (okE2 K O C good)) x y H Q
variable {X : Cx} {n f : Nat} {fd : FuncData} {ps : List Str} {S : L3.Spec} {E : XK}
theorem op_ownTE (F : FnOk X.prog X.w X.K X.mg X.base CX0 n f fd ps (spD X.K S)) (hS : ∀ ks, good ks → S none 0 [.obj C ks, .obj C ks] fun _ r => r = .bl true) (T : OwnEqT X.K C f) (hr : Room (n + 1) X.A) (hb : Binds X.K fd ps []) (hx : Passes CX0 X E) : OpR X (compareOp .Eq) (rOwnTU X.K false C good) := by
  intro pins s σ H x y v u Q I rx ry ⟨O, d⟩
  exact op_tupU (mon_ins okE2_mon) (eqG_ins (fn_eq2 (O := O) F hS) T.eq T.fn hb hx) hr false pins s σ H x y v u Q I rx ry d
theorem op_ownTNe (F : FnOk X.prog X.w X.K X.mg X.base CX0 n f fd ps (spD X.K S)) (hS : ∀ ks, good ks → S none 0 [.obj C ks, .obj C ks] fun _ r => r = .bl true) (T : OwnEqT X.K C f) (hr : Room (n + 1) X.A) (hb : Binds X.K fd ps []) (hx : Passes CX0 X E) : OpR X (compareOp .NotEq) (rOwnTU X.K true C good) := by
  intro pins s σ H x y v u Q I rx ry ⟨O, d⟩
  exact op_tupU (mon_ins okE2_mon) (eqG_ins (fn_eq2 (O := O) F hS) T.eq T.fn hb hx) hr true pins s σ H x y v u Q I rx ry d
theorem op_ownLNe (F : FnOk X.prog X.w X.K X.mg X.base CX0 n f fd ps (spD X.K S)) (hS : ∀ ks, good ks → S none 0 [.obj C ks, .obj C ks] fun _ r => r = .bl true) (T : OwnEqT X.K C f) (hr : Room (n + 1) X.A) (hb : Binds X.K fd ps []) (hx : Passes CX0 X E) : OpR X (compareOp .NotEq) (rOwnLN X.K C good) := by
  intro pins s σ H x y v u Q I rx ry ⟨O, d⟩
  exact op_lstN (mon_ins okE2_mon) (eqG_ins (fn_eq2 (O := O) F hS) T.eq T.fn hb hx) hr pins s σ H x y v u Q I rx ry d
theorem rp_prsU {O : List Addr} {H : Hp} (hO : ∀ o ∈ O, H o ≠ none) {vs ws : List V} {ds es : List D} (hg : ∀ (i : Nat) d e, ds[i]? = some d → es[i]? = some e → ∃ ks, d = .obj C ks ∧ e = .obj C ks ∧ good ks) (r : RpAll K (hid O H) vs ds) (r2 : RpAll K (hid O H) ws es) : PrsU (DIns C (okE2 K O C good)) vs ws H := fun i x y h1 h2 => by
  obtain ⟨d, d1, rd⟩ := r.get h1
  obtain ⟨e, d2, re⟩ := r2.get h2
  obtain ⟨ks, e1, e2, g⟩ := hg i d e d1 d2
  subst e1; subst e2
  cases id rd with
  | obj g1 f1 =>
    cases id re with
    | obj g2 f2 => exact ⟨_, _, _, _, _, _, rfl, rfl, (hid_some.mp g1).2, (hid_some.mp g2).2, hO, ks, g, rd, re⟩
theorem r2_ownTU {neg : Bool} {ds es : List D} {Φ : D → Prop} (hg : ∀ (i : Nat) d e, ds[i]? = some d → es[i]? = some e → ∃ ks, d = .obj C ks ∧ e = .obj C ks ∧ good ks) (k : Φ (.bl (if neg then ds.length != es.length else ds.length == es.length))) : R2D K (rOwnTU K neg C good) (.tup ds) (.tup es) Φ := fun O H x y Q rx ry no q => by
  cases rx with
  | tup h1 r1 =>
    cases ry with
    | tup h2 r2 =>
      exact ⟨O, _, _, _, _, rfl, rfl, same_t same_hid h1, same_t same_hid h2, rp_prsU (fun o ho e => no o e ho) hg r1 r2, fun H' e => q _ _ H' e (.bl _) (by rw [r1.length, r2.length]; exact k)⟩
theorem r2_ownLN {ds : List D} {Φ : D → Prop} (hg : ∀ d ∈ ds, ∃ ks, d = .obj C ks ∧ good ks) (k : Φ (.bl false)) : R2D K (rOwnLN K C good) (.lst ds) (.lst ds) Φ := fun O H x y Q rx ry no q => by
  cases rx with
  | lst h1 r1 =>
    cases ry with
    | lst h2 r2 =>
      exact ⟨O, _, _, _, _, rfl, rfl, same_rd same_hid h1, same_rd same_hid h2, rp_prs (fun o ho e => no o e ho) hg r1 r2, fun H' e => q _ _ H' e (.bl _) k⟩
end
end L3
/-! L6d: `in` where a dict is asked for. -/
namespace L3U
open PySem PySem.SeqAt GQ
open AutoSeq1 (wpAny_loadPart')
open MeetsSeq MeetsSeq2
open MeetsSeq3 SeqRoads2
section
variable {A : Around} {s : Shared}
theorem strRef (b : Str) (u : Tok) (l : Addr) (c : Value) (es : Array DictEntry) (ep : Nat) (dd : Option Addr) (sl : Array (Option Value)) :
    Meets (Builtin.«str.__eq__» ⟨[.str b u, .ref l], []⟩) (fun _ R s => s.heap.get? l = some { cls := c, dict := dd, data := .dict es ep, slots := sl } ∧ R (.ok (.ret .notImplemented)) s) :=
  .of_wp fun prog w A R s h => by
    obtain ⟨hp, g, d, tk, os⟩ := s
    obtain ⟨h1, h2⟩ := h
    wp_walk using wpAny_loadPart' h1, wpAny_load h1
    exact ⟨_, rfl, h2⟩
theorem dictStr (l : Addr) (b : Str) (u : Tok) (es : Array DictEntry) (ep : Nat) (dd : Option Addr) (sl : Array (Option Value)) :
    Meets (Builtin.«dict.__eq__» ⟨[.ref l, .str b u], []⟩) (fun _ R s => s.heap.get? l = some { cls := .type "dict", dict := dd, data := .dict es ep, slots := sl } ∧ R (.ok (.ret .notImplemented)) s) :=
  .of_wp fun prog w A R s h => by
    obtain ⟨hp, g, d, tk, os⟩ := s
    obtain ⟨h1, h2⟩ := h
    have f1 := F.sub_str_dict
    wp_walk using wpAny_loadPart' h1, wpAny_load h1
    exact ⟨_, rfl, h2⟩
theorem rcStrDict {l : Addr} {o : Obj} {es : Array DictEntry} {ep : Nat} (b : Str) (u : Tok) (ho : s.heap.get? l = some o) (hc : o.ExactDict) (hd : o.data = .dict es ep) (hu : A.units < cLine) : RcAt A s (.str b u) (.ref l) false := fun prog w E Q h => by
  obtain ⟨c, dd, da, sl⟩ := o
  obtain ⟨h1, h2, h3⟩ := hc
  simp only at h1 h2 h3 hd
  subst h1 h2 h3 hd
  exact rc_eq_decline_or (k := false) (typeIs_str s b u) ⟨_, ho, rfl⟩ (by decide) F.sub_dict_str F.slot_str_eq F.slot_dict_eq_refl
    (fun _ hq => call_meets F.slot_str_eq (typeIs_str s b u) F.entry_str_eq (F.args_str_eq_2 _ _) (strRef b u l (.type "dict") es ep none #[]) ⟨ho, hq⟩)
    (fun _ hq => call_meets F.slot_dict_eq_refl ⟨_, ho, rfl⟩ F.entry_dict_eq (F.args_dict_eq_2 _ _) (dictStr l b u es ep none #[]) ⟨ho, hq⟩)
    (fun _ hq => wpAny_of_eq (rfl : isSame (.str b u) (.ref l) = pure false) hq) (.inr hu) h
theorem eqStrDict {l : Addr} {o : Obj} {es : Array DictEntry} {ep : Nat} (b : Str) (u : Tok) (ho : s.heap.get? l = some o) (hc : o.ExactDict) (hd : o.data = .dict es ep) (hu : A.units < cLine) : EqAt A s (.str b u) (.ref l) false := fun prog w E Q h => by
  unfold eqBool
  refine wpAny_holding (wpAny_ite_split (fun hab => absurd (eq_of_beq hab) nofun) fun _ => ?_)
  exact wpAny_bind (rcStrDict b u ho hc hd hu prog w E _ (wpAny_truthy_bool h))
end
end L3U
namespace L3
open PySem L2
/-- x not in xs, where x is a dict and xs are texts -/
def rNoDct (K : PySem.W.Frag) : R2 := fun x y H Q => ∃ a kvs l xs, x = .ref a ∧ Rd H a (.dK kvs) ∧ y = .ref l ∧ SqL K H l xs ∧ (∀ v ∈ xs, ∃ z, v = .str z) ∧ Q (.bl true) H
theorem vals_str : ∀ {xs : List V} {us : List Value}, Vals xs us → (∀ v ∈ xs, ∃ z, v = .str z) → ∀ u ∈ us, ∃ z t, u = .str z t
  | _, _, .nil, _, u, h => nomatch h
  | _, _, .cons r t, hs, u, h => by
    rcases List.mem_cons.mp h with q | q
    · subst q
      obtain ⟨z, e⟩ := hs _ List.mem_cons_self
      subst e
      obtain ⟨t, q⟩ := (show ∃ t, _ = Value.str z t from r)
      exact ⟨z, t, q⟩
    · exact vals_str t (fun v hv => hs v (List.mem_cons_of_mem _ hv)) u q
theorem op_noDct {X : Cx} (hu : X.A.units + 65 < cLine) : OpR X (compareOp .NotIn) (rNoDct X.K) := by
  intro pins s σ H x y v u Q I rx ry h
  obtain ⟨a, kvs, l, xs, rfl, ha, rfl, hl, hs, q⟩ := h
  cases rx
  cases ry
  obtain ⟨us, r, e, z⟩ := I.list hl
  have hd : ∃ o es ep, s.heap.get? a = some o ∧ o.ExactDict ∧ o.data = .dict es ep := by
    rcases ha with ha | ⟨ob, ha⟩
    · obtain ⟨_, _, vs, _, o, es, ep, h1, h2, h3, _⟩ := (show ObjOk X.prog X.w H s.heap a (.dK kvs) from I.hok a _ ha)
      exact ⟨o, es, ep, h1, h2, h3⟩
    · obtain ⟨_, _, _, vs, _, o, es, ep, h1, h2, h3, _⟩ := (show ObjOk X.prog X.w H s.heap a (.frz ob (.dK kvs)) from I.hok a _ ha)
      exact ⟨o, es, ep, h1, h2, h3⟩
  obtain ⟨o, es, ep, h1, h2, h3⟩ := hd
  refine SeqAt.notIn_listAt (fun _ => false) e.isList (fun y hy => ?_) ⟨.bl true, H, I, ?_, q⟩
  · obtain ⟨z, t, e⟩ := vals_str r hs y (by simpa using hy)
    subst e
    have e9 : X.A.in1.units ≤ X.A.units + 1 := by simp [Around.in1]
    exact L3U.eqStrDict z t h1 h2 h3 (Nat.lt_of_le_of_lt e9 (by omega))
  · show Value.bool (!us.toArray.any fun _ => false) = .bool true
    simp
/-- not in: plain data, or a dict among texts -/
def rNotInX (K : PySem.W.Frag) : R2 := fun x y H Q => rInS K true x y H Q ∨ rNoDct K x y H Q
theorem x_notInX {X : Cx} (K : PySem.W.Frag) (hu : X.A.units + 65 < cLine) (hK : X.K = K := by rfl) : OpR X (compareOp .NotIn) (rNotInX K) := hK ▸ (op_notInSeq hu).or (op_noDct hu)
theorem r2_notInX {K : PySem.W.Frag} {Φ : D → Prop} {d e : D} {ds : List D} (hs : seqD e = some ds) (hd : fit d = true) (he : fit (.lst ds) = true) (k : Φ (.bl (!inD d ds))) : R2D K (rNotInX K) d e Φ := fun O H x y Q rx ry no q => .inl (r2_notIn hs hd he k O H x y Q rx ry no q)
theorem r2_noDct {K : PySem.W.Frag} {Φ : D → Prop} {kvs : List (L2.Key × D)} {ns : List Str} (k : Φ (.bl true)) : R2D K (rNotInX K) (.dct kvs) (.lst (ns.map .str)) Φ := fun O H x y Q rx ry no q => .inr <| by
  cases rx with
  | dct h1 r1 =>
    cases ry with
    | lst h2 r2 =>
      refine ⟨_, _, _, _, rfl, same_rd same_hid h1, rfl, .inl (same_rd same_hid h2), fun v hv => ?_, q _ _ H (Same.refl _) (.bl _) k⟩
      obtain ⟨i, hi⟩ := List.mem_iff_getElem?.mp hv
      obtain ⟨d, hd, rd⟩ := r2.get hi
      obtain ⟨z, _, e, _, _⟩ := map_at hd
      subst e
      cases rd
      exact ⟨z, rfl⟩
end L3
/-! L6e: errors as values: made, asked for their class, read. -/
namespace L3U
open PySem PySem.W PySem.Calls PyProof.Rows L2
section
variable {prog : Program} {w : World} {A : Around} {E : Value → Shared → Prop} {K : Frag} {x D : Addr} {ox od : Obj}
/-- x.__class__ of an error with a dict -/
theorem erCls (T : ExcC K D) {s : Shared} (X : K.In s.heap) (I : InstAt s.heap x ox D (some od)) {Q : Option Value → Shared → Prop} (k : Q (some (.ref D)) { s with toks := s.toks + 1 }) : wpAny (model prog w) A (getAttr? (.ref x) "__class__") Q E s := by
  have T1 := T.hg; have T2 := T.hk; have T3 := T.hs; have T4 := T.ha; have T5 := T.hn; have T6 := T.ht; have T7 := T.hm
  have fo : findObj K D (some od) "__class__" = some (.bind (.builtin "getset_descriptor.__get__") (.builtin "object.__class__")) := by
    obtain ⟨cd, hc, _⟩ := any_some T.hd
    simp [findObj, hc, T4, T5, T6]
  obtain ⟨hp, gg, dr, tk, os⟩ := s
  have ty := I.type (M := model prog w)
  have ga := looks_findIn (M := model prog w) X T1
  have gt := looks_findIn (M := model prog w) X T2
  have fd := looks_find (M := model prog w) X I fo
  have be : Looks (model prog w) hp (isInstance (Value.ref x) (.type "BaseException")) true := ty.andThen (looks_subIn (M := model prog w) X T3)
  have ne : (Value.builtin "BaseException.__getattribute__" == Value.builtin "object.__getattribute__") = false := by decide +kernel
  have no : (onTheHeap (Value.ref D) && Value.builtin "BaseException.__getattribute__" == Value.builtin "object.__getattribute__") = false := (congrArg _ ne).trans (Bool.and_false _)
  have nt : ¬ (false = true) := Bool.false_ne_true
  unfold getAttr? getAttrBy? getAttrBy
  refine wpAny_bind <| wpAny_mkText <| wpAny_bind <| wpAny_attempt <| wpAny_holding <| wpAny_bind <| ty.at <| wpAny_bind <| ga.at ?_
  show wpAny _ _ (ite ((onTheHeap (.ref D) && Value.builtin "BaseException.__getattribute__" == Value.builtin "object.__getattribute__") = true) _ _) _ _ _
  rw [no, if_neg nt]
  unfold getAttrByItsOwn hookBefore
  refine wpAny_bind ?_
  have on : onTheHeap (Value.ref D) = true := rfl
  rw [if_pos on]
  refine gt.at <| wpAny_bind <| wpAny_attempt <| wpAny_holding ?_
  unfold callGetattribute
  have no2 : (false && onTheHeap (Value.builtin "BaseException.__getattribute__")) = false := rfl
  rw [no2, if_neg nt]
  unfold boundAndCalled
  rw [PySem.F.excAttr_ValueError.ga.bind (.ref x)]
  refine wpAny_bind (wpAny_pure ?_)
  show wpAny _ _ (call (.builtin "BaseException.__getattribute__") [.ref x, .str "__class__" tk]) _ _ _
  refine wpAny_call (codeAny_call_builtin PySem.F.excAttr_ValueError.ga.plain PySem.F.entry_bexc_ga ?_)
  refine check_slot (M := model prog w) (s := ⟨hp, gg, dr, tk + 1, os⟩) (i := "BaseException.__getattribute__") (owner := "BaseException") (n := "__getattribute__") (self := .ref x) (rest := [.str "__class__" tk]) (kw := []) (by decide +kernel) (by decide +kernel) be (PySem.F.args_bexc_ga (.ref x) (.str "__class__" tk)) ?_
  unfold Builtin.«object.__getattribute__»
  refine wpAny_bind <| wpAny_of_eq (a := ((Value.ref x : Value), [Value.str "__class__" tk])) (by first | rfl | (simp only [slotArgs]; rfl)) <| wpAny_bind <| wpAny_pure <| wpAny_bind <| ty.at <| wpAny_bind <| fd.at ?_
  refine wpAny_bind <| wpAny_holding <| wpAny_call <| class_get (s := ⟨hp, gg, dr, tk + 1, os⟩) X I T7 <| wpAny_pure <| wpAny_pure ?_
  exact wpAny_pure k
theorem kitEr (T : ExcC K D) (hq : kitCls K (.ref D) (.ref D) = some true) : KitX K (.ref x) (.ref D) fun h => InstAt h x ox D (some od) where
  ty := fun _ _ _ I => I.type
  it := fun _ _ X _ => (kit_cls X hq).2.1
  ne := fun h tp dd its n sl X htp => Bool.eq_false_iff.mpr fun q => by
    obtain rfl : D = tp := by simpa using q
    have hd := T.hd
    cases ho : K.lookup D with
    | none => simp [hasDictIn, clsIn, ho] at hd
    | some o =>
      have z := (X _ _ ho).symm.trans htp
      cases z
      simp [hasDictIn, clsIn, ho] at hd
  ca := fun X I k => erCls T X I k
end
end L3U
namespace L3
open PySem L2
/-- what the written part says of an error's class, so that isinstance asks it rightly -/
structure ErC (K : PySem.W.Frag) (C : Addr) : Prop where
  ec : ExcC K C
  self : PySem.W.kitCls K (.ref C) (.ref C) = some true
section
variable {X : Cx} {pins : List (Addr × Obj)} {σ : L2.St} {H : Hp} {s : Shared} {a C dx : Addr} {fs : List (Str × V)}
theorem er_at (I : Inv X pins σ H s) (h1 : Rd H a (exo a C (some dx))) (h2 : Rd H dx (exd dx fs)) : ∃ ox od, PySem.W.InstAt s.heap a ox C (some od) ∧ ∀ f v, fs.lookup f = some v → ∃ u, PySem.W.lookIn f od = some (some u) ∧ RelV v u := by
  obtain ⟨t1, ho⟩ := (show ObjOk X.prog X.w H s.heap a (.ext _) from h1.ok I.hok).1
  obtain ⟨mA, hns, rel⟩ := (show ObjOk X.prog X.w H s.heap dx (.ext _) from h2.ok I.hok).1
  obtain ⟨od, hod, hl⟩ := lookIn_ns hns
  refine ⟨_, od, ⟨ho, rfl, rfl, hod⟩, fun f v e => ?_⟩
  obtain ⟨u, hu, ru⟩ := RelO.some_of (v := v) (o := mA f) (by rw [← e]; exact rel f)
  exact ⟨u, by rw [hl, hu], ru⟩
/-- isinstance of an error -/
def rIsX (K : PySem.W.Frag) : List V → Hp → VK → Prop := fun xs H Q => ∃ (a C dx : Addr) (fs : List (Str × V)) (c : V) (b : Bool), xs = [.ref a, c] ∧ Rd H a (exo a C (some dx)) ∧ Rd H dx (exd dx fs) ∧ ErC K C ∧
  ((∃ u, ClsV c u ∧ PySem.W.kitOne K (.ref C) u = some b) ∨ ∃ (tp : Addr) (cs : List V) (us : List Value), c = .ref tp ∧ SqT K H tp cs ∧ Paired ClsV cs us ∧ PySem.W.kitAny K (.ref C) us = some b) ∧ Q (.bl b) H
theorem x_isX (K : PySem.W.Frag) (hK : X.K = K := by rfl) : CallR X (.builtin "isinstance") (rIsX K) := by
  subst hK
  intro pins s σ H xs us Q I r h
  obtain ⟨a, C, dx, fs, c, b, rfl, h1, h2, T, hk, q⟩ := h
  obtain ⟨u1, u2, rfl, r1, r2⟩ := vals2 r
  cases (show u1 = Value.ref a from r1)
  obtain ⟨ox, od, J, _⟩ := er_at I h1 h2
  have Z := L3U.kitEr (x := a) (ox := ox) (od := od) T.ec T.self
  rcases hk with ⟨u, cu, e⟩ | ⟨tp, cs, ws, rfl, hT, k, e⟩
  · have e2 := cu.eq r2
    subst e2
    exact PySem.W.kia_one Z I.kIn J e (fun z => nomatch z) fun tk => ⟨.bl b, H, I.tok tk, rfl, q⟩
  · cases (show u2 = Value.ref tp from r2)
    rcases hT with hT | ⟨o, its, n, hk, hc, hd, _, rv⟩
    · obtain ⟨_, its, rv, o, g1, g2, n, g3⟩ := hT.ok I.hok
      have e3 := ClsV.all k rv
      subst e3
      obtain ⟨oc, od', dt, sl⟩ := o
      simp only at g2 g3
      subst g2 g3
      exact PySem.W.kia_tup Z I.kIn J g1 e (fun z => nomatch z) fun tk => ⟨.bl b, H, I.tok tk, rfl, q⟩
    · have e3 := ClsV.all k rv
      subst e3
      have g1 := I.kIn _ _ hk
      obtain ⟨oc, od', dt, sl⟩ := o
      obtain ⟨il⟩ := its
      simp only at hc hd
      subst hc hd
      exact PySem.W.kia_tup Z I.kIn J g1 e (fun z => nomatch z) fun tk => ⟨.bl b, H, I.tok tk, rfl, q⟩
/-- e.f of an error -/
def tXv (K : PySem.W.Frag) (te : TE) (f : Str) : TE := fun σ H Q => te σ H fun x H1 => ∃ (a C dx : Addr) (fs : List (Str × V)) (v : V), x = .ref a ∧ Rd H1 a (exo a C (some dx)) ∧ Rd H1 dx (exd dx fs) ∧ XfC K C ∧ PySem.W.findIn K (.ref C) f = some none ∧ fs.lookup f = some v ∧ Q v H1
theorem pe_xv {K : PySem.W.Frag} {e : Expr} {te : TE} {pos : Pos} {f : Str} (he : PE X e te) (hb : attributeBase e f X.env (eval e X.env) = eval e X.env := by rfl) (hK : X.K = K := by rfl) : PE X (.Attribute e f pos) (tXv K te f) := by
  subst hK
  refine ⟨fun pins s σ H Q I h => attr_of hb (thn (he.run pins s σ H _ I h) fun u s1 z => ?_)⟩
  obtain ⟨x, H1, I1, rx, a, C, dx, fs, v, rfl, h1, h2, T, no, l, q⟩ := z
  cases (show u = Value.ref a from rx)
  obtain ⟨ox, od, J, lk⟩ := er_at I1 h1 h2
  obtain ⟨u, hu, ru⟩ := lk f v l
  exact HandSPX.exc_get I1.kIn J T.ga T.gg T.exC (PySem.W.findObj_own T.hdC no rfl hu) (handed_of ru) ⟨v, H1, I1.tok _, ru, q⟩
/-- C(e, ..), an error made and held -/
def tMkE (C : Addr) (sp : Sp) (ta : TA) : TE := fun σ H Q => ta σ H fun vs H1 => vs.length ≤ 1000 ∧ ∀ a, H1 a = none → sp (.ref a :: vs) (upd H1 a (exo a C none)) (fun v H2 => v = .non ∧ Q (.ref a) H2) fun _ _ _ => False
theorem pe_mkE {CX : CXT} {x : Str} {C fI : Addr} {k : Nat} {fd : FuncData} {ps : List Str} {sp : Sp} {e : Expr} {es : List Expr} {ta : TA} {p pos : Pos} (T : OexC X.K C) (iC : PySem.W.findIn X.K (.ref C) "__init__" = some (some (.ref fI))) (tI : PySem.W.typeIn X.K (.ref fI) = some (.type "function"))
    (F1 : FnOk X.prog X.w X.K X.mg X.base CX k fI fd ps sp) (hr : Room (k + 1) X.A) (hb : Binds X.K fd ps []) (hx : Passes CX X fun _ _ _ => False) (hg : Gl X x) (hm : X.mg x = some (.ref C)) (ha : PA X (e :: es) ta)
    (hdb : (x == ("__debug__" : Str)) = false := by decide) (he : starEach (e :: es) X.env = (false, eval e X.env) :: starEach es X.env := by rfl) (hpl : (backTo pos (starEach es X.env)).any (·.1) = false := by rfl) :
    PE X (.Call (.Name x p) (e :: es) [] pos) (tMkE C sp ta) := by
  obtain ⟨_, _, _, _, bm, _, _, _, _, _, _, _, _, _, _, look, refs⟩ := T.cls
  refine ⟨fun pins s σ H Q I h => wpAny_Call_Name_kw (ld_glob I hg hm ?_ hdb)⟩
  refine PySem.W.callWith_K (h₀ := X.base) I.ok.mod.kin T.kC (thn (ha.run pos pins s σ H _ I h) fun us s1 z => ?_) he hpl
  obtain ⟨vs, H1, I1, rv, small, give⟩ := z
  refine ⟨I1.kIn, ?_⟩
  obtain ⟨hp, gg, dr, tk, os⟩ := s1
  have nx : H1 (hp.objs.size + 1) = none := I1.hok.fresh (Nat.le_succ _)
  have want := give _ nx
  have keep : ∀ b o, hp.get? b = some o → ((hp.push (PySem.W.kdv_tup us)).push (PySem.HandSPX.excO C hp.objs.size)).get? b = some o := fun b o y => Heap.get?_push_of_some _ (Heap.get?_push_of_some _ y)
  have here : ((hp.push (PySem.W.kdv_tup us)).push (PySem.HandSPX.excO C hp.objs.size)).get? (hp.objs.size + 1) = some (PySem.HandSPX.excO C hp.objs.size) := by heap_get
  have I2 := I1.laid (t' := tk) (o := exo (hp.objs.size + 1) C none) keep (Nat.le_succ _) (exo_ok here)
  have rs : Vals (V.ref (hp.objs.size + 1) :: vs) (Value.ref (hp.objs.size + 1) :: us) := .cons rfl rv
  have many : (Value.ref (hp.objs.size + 1) :: us).length = ps.length := rs.length.symm.trans (F1.len _ _ _ _ want)
  have room : us.length ≤ sizeLine := by rw [← rv.length, sizeLine_eq]; omega
  refine wpAny_call (PySem.HandSPX.call_own F.excBase_ValueError (fun Y => PySem.HandSPX.refsVE_contains Y bm refs) (I1.kIn _ _ look) (PySem.W.looks_findIn I1.kIn iC) (fun self => PySem.W.bind_fn I1.kIn self tI) room ?_)
  have bd := hb _ (Value.ref (hp.objs.size + 1) :: us) I2.kIn (by rw [List.append_nil]; exact many)
  rw [List.append_nil] at bd
  refine codeAny_mono (F1.run _ X.stack _ _ ⟨Value.ref (hp.objs.size + 1) :: us, []⟩ (Value.ref (hp.objs.size + 1) :: us) _ _ (fun _ _ _ => False) (hr.make C us []) (I2.env0.make C us []) bd rs want) fun r s' back => ?_
  match r, back with
  | .error er, back => exact hx pins σ _ _ er s' I2 back
  | .ok (.ret u), back =>
    obtain ⟨v, H2, eo, bare, un, hok, ru, rfl, q⟩ := back
    exact ⟨ru, V.ref (hp.objs.size + 1), H2, I2.call' (ch := []) eo un hok bare (fun b z => nomatch z), rfl, q⟩
  | .ok .next, back => exact back.elim
  | .ok .brk, back => exact back.elim
  | .ok .cont, back => exact back.elim
end
section
variable {c : Ctx} {ρ : List SD} {n : Nat} {te : TE} {as : TA} {Φ : Nat → D → Prop}
theorem we_xv {f : Str} (h : WE c te ρ n fun n1 x => ∃ C ks, x = .er C ks ∧ XfC c.K C ∧ PySem.W.findIn c.K (.ref C) f = some none ∧ ∃ d, ks.lookup f = some d ∧ Φ n1 d) : WE c (tXv c.K te f) ρ n Φ := fun P L σ H Q E q => by
  refine h P L σ H _ E fun v x n1 H1 s1 j1 r1 ⟨C, ks, e, T, no, d, l, k⟩ => ?_
  subst e
  cases r1 with
  | er h1 h2 hf =>
    obtain ⟨w, lw, rw'⟩ := hf.look l
    exact ⟨_, _, _, _, w, rfl, same_rd same_hid h1, same_rd same_hid h2, T, no, lw, q w d n1 H1 s1 j1 rw' k⟩
theorem we_mkE {C : Addr} {fs : List Str} (h : WA c as ρ n fun n1 ds => ds.length = fs.length ∧ fs.length ≤ 1000 ∧ Φ n1 (.er C (fs.zip ds).reverse)) : WE c (tMkE C (spXI C fs) as) ρ n Φ := fun P L σ H Q E q => by
  refine h P L σ H _ E fun vs ds n1 H1 s1 j1 r1 ⟨hl, hz, k⟩ => ?_
  have E1 := E.step s1 j1
  have hvl : vs.length = fs.length := r1.length.trans hl
  refine ⟨by omega, fun a ha => ⟨a, vs, rfl, hvl, upd_same, fun d H' hd e1 e2 e3 => ⟨rfl, ?_⟩⟩⟩
  have hda : d ≠ a := fun z => by rw [z, upd_same] at hd; cases hd
  have hd1 : H1 d = none := by rw [upd_ne hda] at hd; exact hd
  have sm : Same H1 H' := fun b o z => by
    have b1 : b ≠ a := fun y => by rw [y, ha] at z; cases z
    have b2 : b ≠ d := fun y => by rw [y, hd1] at z; cases z
    rw [e3 b b1 b2, upd_ne b1]; exact z
  obtain ⟨s2, j2⟩ := E1.same sm
  refine q (.ref a) _ n1 H' (s1.trans s2) j2 (.er (dx := d) (.inl ?_) (.inl ?_) ((rpfs_zip r1).rev.mono (same_hid_of sm))) k
  · rw [hid_out (E1.noO a ha)]; exact e1
  · rw [hid_out (E1.noO d hd1)]; exact e2
end
section
variable {K : PySem.W.Frag} {Φ : D → Prop} {C : Addr} {ks : List (Str × D)} {b : Bool}
theorem rc_isXT {U : String} (T : ErC K C) (hk : PySem.W.kitOne K (.ref C) (.type U) = some b) (k : Φ (.bl b)) : RCD K (rIsX K) [.er C ks, .ty U] Φ := fun O H xs Q rs no q => by
  obtain ⟨v, u, rfl, r1, r2⟩ := rs.two
  cases r2
  cases r1 with
  | er h1 h2 hf => exact ⟨_, _, _, _, _, b, rfl, same_rd same_hid h1, same_rd same_hid h2, T, .inl ⟨_, .ty U, hk⟩, q _ _ H (Same.refl _) (.bl _) k⟩
theorem rc_isXC {C' : Addr} (T : ErC K C) (hk : PySem.W.kitOne K (.ref C) (.ref C') = some b) (k : Φ (.bl b)) : RCD K (rIsX K) [.er C ks, .adr C'] Φ := fun O H xs Q rs no q => by
  obtain ⟨v, u, rfl, r1, r2⟩ := rs.two
  cases r2
  cases r1 with
  | er h1 h2 hf => exact ⟨_, _, _, _, _, b, rfl, same_rd same_hid h1, same_rd same_hid h2, T, .inl ⟨_, .own C', hk⟩, q _ _ H (Same.refl _) (.bl _) k⟩
theorem rp_adrs {H : Hp} : ∀ {vs : List V} {Cs : List Addr}, RpAll K H vs (Cs.map .adr) → Paired ClsV vs (Cs.map Value.ref)
  | _, [], h => by cases h; exact .nil
  | _, C :: Cs, h => by
    cases h with
    | cons h r => cases h; exact .cons (.own C) (rp_adrs r)
theorem rc_isXN {Cs : List Addr} (T : ErC K C) (hk : PySem.W.kitAny K (.ref C) (Cs.map Value.ref) = some b) (k : Φ (.bl b)) : RCD K (rIsX K) [.er C ks, .tup (Cs.map .adr)] Φ := fun O H xs Q rs no q => by
  obtain ⟨v, u, rfl, r1, r2⟩ := rs.two
  cases r1 with
  | er h1 h2 hf =>
    cases r2 with
    | tup hs hc => exact ⟨_, _, _, _, _, b, rfl, same_rd same_hid h1, same_rd same_hid h2, T, .inr ⟨_, _, _, rfl, same_t same_hid hs, rp_adrs hc, hk⟩, q _ _ H (Same.refl _) (.bl _) k⟩
end
end L3
/-! L6f: own __len__. -/
namespace L3
open PySem L2
section
variable {X : Cx} {CX : CXT} {n : Nat} {C f : Addr} {fd : FuncData} {ps : List Str} {sp : Sp} {E : XK}
theorem own_run1 {A : Around} {pins : List (Addr × Obj)} {σ : L2.St} {H : Hp} {s : Shared} {a : Addr} {Q : VK} (F : FnOk X.prog X.w X.K X.mg X.base CX n f fd ps sp) (hr : Room n A) (hfr : A.frames = X.A.frames) (hb : Binds X.K fd ps []) (hx : Passes CX X E) (I : Inv X pins σ H s) (h : sp [.ref a] H Q E) :
    wpAny (model X.prog X.w) A (call (.ref f) [.ref a]) (EP X pins σ Q) X.xe s := by
  have e0 : Env0 X.prog X.w X.K X.mg X.base A X.stack s H := by
    have e := I.env0
    exact ⟨by rw [hfr]; exact e.frames, e.mod, e.bs, e.bsz, e.funs, e.frf, e.hok, e.bare⟩
  have hl := F.len _ _ _ _ h
  have r2 : Vals [V.ref a] [Value.ref a] := .cons rfl .nil
  refine wpAny_call (codeAny_mono (F.run A X.stack s H ⟨[.ref a], []⟩ [.ref a] [.ref a] _ E hr e0 (by
    have := hb s [.ref a] I.kIn (by simpa using hl)
    simpa using this) r2 h) fun r s' hq => ?_)
  match r, hq with
  | .error e, hq => exact hx pins σ H s e s' I hq
  | .ok (.ret w), hq => exact I.after hq
  | .ok .next, hq => exact hq.elim
  | .ok .brk, hq => exact hq.elim
  | .ok .cont, hq => exact hq.elim
/-- len(x) of an instance with its own __len__ -/
def rLenO (C : Addr) (sp : Sp) (E : XK) : List V → Hp → VK → Prop := fun xs H Q => ∃ a dx fs, xs = [.ref a] ∧ H a = some (.ins C dx fs) ∧ sp [.ref a] H (fun v H' => ∃ k : Nat, v = .int k ∧ k < 2 ^ 63 ∧ Q (.int k) H') E
theorem call_lenO (F : FnOk X.prog X.w X.K X.mg X.base CX n f fd ps sp) (hs : PySem.W.findIn X.K (.ref C) "__len__" = some (some (.ref f))) (hf : PySem.W.isFn X.K (.ref f) = true) (hr : Room (n + 1) X.A) (hb : Binds X.K fd ps []) (hx : Passes CX X E) : CallR X (.builtin "len") (rLenO C sp E) := by
  intro pins s σ H xs us Q I r h
  obtain ⟨a, dx, fs, rfl, ha, h⟩ := h
  cases r with
  | cons rx rr =>
    cases rr
    cases rx
    obtain ⟨mA, J, _⟩ := ins_get I.hok ha
    obtain ⟨od, J, _⟩ := J.look
    obtain ⟨m, hF⟩ := I.fr
    refine PySem.W.len_K hF I.ok.mod.kin J hs hf (wpAny_mono (own_run1 F hr.in1 rfl hb hx I h) (fun r s' z => ?_) fun _ _ e => e)
    obtain ⟨v, H', I', rv, k, ek, hk, q⟩ := z
    subst ek
    obtain ⟨t, e⟩ := (show ∃ t, r = Value.int k t from rv)
    subst e
    exact ⟨⟨by omega, by omega⟩, .int k, H', I'.tok _, ⟨_, rfl⟩, q⟩
end
/-- a class with its own __len__, as callers see it -/
structure Ln (P : Program) (w : World) (K : PySem.W.Frag) (mg : Str → Option Value) (base : Heap) (C : Addr) (k : Nat) (ps : List Str) (S : L3.Spec) where
  f : Addr
  fd : FuncData
  hs : PySem.W.findIn K (.ref C) "__len__" = some (some (.ref f))
  hf : PySem.W.isFn K (.ref f) = true
  G : FnOk P w K mg base CX0 k f fd ps (spD K S)
  b : Binds K fd ps []
theorem rc_lenO {K : PySem.W.Frag} {C : Addr} {S : L3.Spec} {E : XK} {Φ : D → Prop} {ks : List (Str × D)} (h : S none 0 [.obj C ks] fun _ r => ∃ k : Nat, r = .int k ∧ k < 2 ^ 63 ∧ Φ (.int k)) : RCD K (rLenO C (spD K S) E) [.obj C ks] Φ := fun O H xs Q rs no q => by
  cases rs with
  | cons r1 rr =>
    cases rr
    cases r1 with
    | obj h1 f1 =>
      refine ⟨_, _, _, rfl, (hid_some.mp h1).2, O, none, 0, _, _, (fun b q e => nomatch e), (fun o ho e => no o e ho), .cons (.obj h1 f1) .nil, h, fun v d n' H' s j r ⟨k, e, hk, kk⟩ => ?_⟩
      subst e
      cases r
      have s' : Same H H' := by
        have z : Same (hid [] H) (hid [] H') := s
        rw [hid_nil, hid_nil] at z
        exact z
      exact ⟨k, rfl, hk, q _ _ H' s' (.int _) kk⟩
/-! ### readings that tell K (for suites of try) -/
section
variable {X : Cx} {C : Addr} {good : List (Str × D) → Prop} {n f : Nat} {fd : FuncData} {ps : List Str} {S : L3.Spec} {E : XK}
theorem x_ownTE (K : PySem.W.Frag) (F : FnOk X.prog X.w X.K X.mg X.base CX0 n f fd ps (spD X.K S)) (hS : ∀ ks, good ks → S none 0 [.obj C ks, .obj C ks] fun _ r => r = .bl true) (T : OwnEqT X.K C f) (hr : Room (n + 1) X.A) (hb : Binds X.K fd ps []) (hx : Passes CX0 X E) (hK : X.K = K := by rfl) : OpR X (compareOp .Eq) (rOwnTU K false C good) := by
  subst hK; exact op_ownTE F hS T hr hb hx
theorem x_ownTNe (K : PySem.W.Frag) (F : FnOk X.prog X.w X.K X.mg X.base CX0 n f fd ps (spD X.K S)) (hS : ∀ ks, good ks → S none 0 [.obj C ks, .obj C ks] fun _ r => r = .bl true) (T : OwnEqT X.K C f) (hr : Room (n + 1) X.A) (hb : Binds X.K fd ps []) (hx : Passes CX0 X E) (hK : X.K = K := by rfl) : OpR X (compareOp .NotEq) (rOwnTU K true C good) := by
  subst hK; exact op_ownTNe F hS T hr hb hx
theorem x_ownLNe (K : PySem.W.Frag) (F : FnOk X.prog X.w X.K X.mg X.base CX0 n f fd ps (spD X.K S)) (hS : ∀ ks, good ks → S none 0 [.obj C ks, .obj C ks] fun _ r => r = .bl true) (T : OwnEqT X.K C f) (hr : Room (n + 1) X.A) (hb : Binds X.K fd ps []) (hx : Passes CX0 X E) (hK : X.K = K := by rfl) : OpR X (compareOp .NotEq) (rOwnLN K C good) := by
  subst hK; exact op_ownLNe F hS T hr hb hx
theorem x_own {x : Str} {k fi : Nat} {tg l : Expr} {tl : TE} (K : PySem.W.Frag) (hl : PE X l tl) (F : ItRun X.prog X.w X.K X.mg X.base C x k fi) (hi : PySem.W.findIn X.K (.ref C) "__iter__" = some (some (.ref fi))) (hf : PySem.W.isFn X.K (.ref fi) = true) (hr : Room k X.A) (hx : Passes CX0 X E) (hK : X.K = K := by rfl) : PI X tg l (iOwn K C x tl) := by
  subst hK; exact pi_own hl F hi hf hr hx
/-! ### a if t else b as a test -/
def tIfT (t a b : TT) : TT := fun σ H Q => t σ H fun c H1 => if c = true then a σ H1 Q else b σ H1 Q
theorem pt_ifT {c a b : Expr} {t u v : TT} {pos : Pos} (hc : PT X c t) (ha : PT X a u) (hb : PT X b v) : PT X (.IfExp c a b pos) (tIfT t u v) := by
  refine ⟨fun pins s σ H Q I h => ?_⟩
  have e : isTrue (.IfExp c a b pos) X.env (eval (.IfExp c a b pos) X.env) = (isTrue c X.env (eval c X.env) >>= fun d => if d then isTrue a X.env (eval a X.env) else isTrue b X.env (eval b X.env)) := rfl
  rw [e]
  refine wpAny_bind (thn (hc.run pins s σ H _ I h) fun d s1 z => ?_)
  obtain ⟨H1, I1, q⟩ := z
  cases d with
  | true => exact ha.run pins s1 σ H1 Q I1 q
  | false => exact hb.run pins s1 σ H1 Q I1 q
end
theorem wt_ifT {c : Ctx} {ρ : List SD} {n : Nat} {t u v : TT} {Φ : Nat → Bool → Prop} (h : WT c t ρ n fun n1 b => if b = true then WT c u ρ n1 Φ else WT c v ρ n1 Φ) : WT c (tIfT t u v) ρ n Φ := fun P L σ H Q E q => by
  refine h P L σ H _ E fun b n1 H1 s1 j1 k => ?_
  have E1 := E.step s1 j1
  cases b with
  | true => exact k P L σ H1 Q E1 fun b n2 H2 s2 j2 k2 => q b n2 H2 (s1.trans s2) j2 k2
  | false => exact k P L σ H1 Q E1 fun b n2 H2 s2 j2 k2 => q b n2 H2 (s1.trans s2) j2 k2
/-! ### isinstance's answers of own classes, from what k_is tells -/
section
variable {K : PySem.W.Frag} {S T : Addr} {b : Bool}
theorem kitCls_own (h1 : PySem.W.isClsIn K T = true) (h2 : PySem.W.typeIn K (.ref T) = some (.type "type")) (h3 : PySem.W.subIn K (.ref S) (.ref T) = some b) : PySem.W.kitCls K (.ref S) (.ref T) = some b := by
  have h1' : (PySem.W.clsIn K T).isSome = true := h1
  show (if ((PySem.W.clsIn K T).isSome && PySem.W.typeIn K (.ref T) == some (.type "type")) = true then PySem.W.subIn K (.ref S) (.ref T) else none) = some b
  rw [if_pos (by rw [h1', h2] <;> rfl)]
  exact h3
theorem kitOne_yes (h1 : PySem.W.isClsIn K T = true) (h2 : PySem.W.typeIn K (.ref T) = some (.type "type")) (h3 : PySem.W.subIn K (.ref S) (.ref T) = some true) : PySem.W.kitOne K (.ref S) (.ref T) = some true := by
  unfold PySem.W.kitOne
  split
  · rfl
  · exact kitCls_own h1 h2 h3
theorem kitOne_no (h0 : PySem.W.subIn K (.ref S) (.ref S) = some true) (h1 : PySem.W.isClsIn K T = true) (h2 : PySem.W.typeIn K (.ref T) = some (.type "type")) (h3 : PySem.W.subIn K (.ref S) (.ref T) = some false) : PySem.W.kitOne K (.ref S) (.ref T) = some false := by
  unfold PySem.W.kitOne
  split
  · rename_i q
    have e : S = T := by simpa using q
    subst e
    rw [h0] at h3; cases h3
  · exact kitCls_own h1 h2 h3
theorem kitOne_ty {U : String} (hm : PySem.W.kitMeta U = true) (h3 : PySem.W.subIn K (.ref S) (.type U) = some b) : PySem.W.kitOne K (.ref S) (.type U) = some b := by
  unfold PySem.W.kitOne
  rw [if_neg (by intro q; exact nomatch (eq_of_beq q))]
  show (if PySem.W.kitMeta U = true then _ else none) = some b
  rw [if_pos hm]
  exact h3
theorem kitAny_no2 {A B : Value} (h1 : PySem.W.kitOne K (.ref S) A = some false) (h2 : PySem.W.kitOne K (.ref S) B = some false) : PySem.W.kitAny K (.ref S) [A, B] = some false := by
  unfold PySem.W.kitAny
  rw [h1]
  show PySem.W.kitAny K (.ref S) [B] = some false
  unfold PySem.W.kitAny
  rw [h2]; rfl
end
end L3
namespace Toy
open PySem L2 L3
def top (i : Nat) : Stmt := PySem.Challenge.pw_askedtrue_k06_orders_refused_word_by_wor.main.body.getD i (.Pass ⟨0, 0, 0, 0⟩)
structure Txt (mg : Str → Option Value) : Prop where
  b_len : mg "len" = none
  b_abs : mg "abs" = none
  b_sum : mg "sum" = none
  b_max : mg "max" = none
  b_min : mg "min" = none
  b_all : mg "all" = none
  b_any : mg "any" = none
  b_sorted : mg "sorted" = none
  b_isinstance : mg "isinstance" = none
  b_int : mg "int" = none
  b_bool : mg "bool" = none
  b_str : mg "str" = none
  b_list : mg "list" = none
  b_tuple : mg "tuple" = none
  b_range : mg "range" = none
  b_enumerate : mg "enumerate" = none
  b_dict : mg "dict" = none
theorem hu1 {k : Nat} {A : Around} (hr : Room k A) : A.units + 1 < cLine := by have := hr.un; omega
theorem hu65 {k : Nat} {A : Around} (hr : Room k A) : A.units + 65 < cLine := by have := hr.un; omega
section
variable {P : Program} {w : World} {K : PySem.W.Frag} {mg : Str → Option Value} {base : Heap}
/-! the draw -/
def spDraw : L3.Spec := fun bag n ds Φ => ∃ b q k, bag = some (b, q) ∧ ds = [.adr b, .int k] ∧ 0 < k ∧ k < 2 ^ 200 ∧ n < 2 ^ 60 ∧ ∀ r, 0 ≤ r → r < k → Φ (n + 1) (.int r)
abbrev s_law_draw : Stmt := top 20
abbrev N_law_draw : List Str := ["bag", "limit", "digit", "turn", "cells", "cell", "mixed"]
theorem sc_law_draw : FnScope N_law_draw ["bag", "limit"] (defScope s_law_draw) := ⟨rfl, rfl, rfl, by decide +kernel, rfl, by decide +kernel, by decide +kernel⟩

theorem upd3 {α : Type} (a b c x : α) : [a, b, c].set 2 x = [a, b, x] := rfl
theorem dec_gt {i j : Int} {A B : Prop} (h1 : j < i → A) (h2 : i ≤ j → B) : if decide (j < i) = true then A else B := by
  by_cases h : j < i
  · rw [if_pos (decide_eq_true h)]; exact h1 h
  · rw [if_neg (by simpa using h)]; exact h2 (by omega)
theorem ifs_ans {c : TT} {t u : TS} {D : Ends} {σ : L2.St} {H : Hp} (b : Bool) (hc : Ans c σ H b) (h1 : b = true → t D σ H) (h2 : b = false → u D σ H) : tIfS c t u D σ H := by
  refine hc _ ?_
  cases b with
  | true => exact h1 rfl
  | false => exact h2 rfl
theorem ok_draw {f : Addr} {fd : FuncData} (F : Fun K "_law_draw" "_law_draw" s_law_draw f fd) (T : Txt mg) : FnOk P w K mg base CX0 1 f fd ["bag", "limit"] (spD K spDraw) := by
  refine F.ok sc_law_draw (fun vs H Q E h => ?_) (fun cdv A outer s H vs Q E hr h => ?_)
  · obtain ⟨O, bag, n, ds, Φ, _, _, r, ⟨b, q, k, _, e, _⟩, _⟩ := h
    rw [r.length, e]; rfl
  · obtain ⟨O, bag, n, ds, Φ, hb, hO, r, ⟨b, q, k, e1, e2, k0, k1, hn, hk⟩, q0⟩ := h
    subst e1; subst e2
    obtain ⟨⟨t, r0, cs, h1, h2, h3, h4, h5, h6, h7, h8⟩, bO, qO, nqb⟩ := hb b q rfl
    obtain ⟨v1, v2, rfl, r1, r2⟩ := r.two
    cases r1
    cases r2
    have Qf : ∀ (x : Int) (t' r' : Int) (H' : Hp), 0 ≤ x → x < k → 0 ≤ t' → t' ≤ t + 1 → 0 ≤ r' → H' = upd H b (.lst [.ref q, .int t', .int r']) → Q (.int x) H' := fun x t' r' H' x0 xk t0 t1 r0 e => by
      subst e
      refine q0 _ (.int x) (n + 1) _ ?_ (fun b' q' e => ?_) (.int x) (hk x x0 xk)
      · show Same (hid [b] H) (hid [b] _)
        rw [hid_upd_in List.mem_cons_self]
        exact Same.refl _
      · cases e
        exact ⟨t', r', cs, upd_same, by rw [upd_ne nqb]; exact h2, h3, h4, h5, t0, by omega, r0⟩
    have hcl : 0 < cs.length := List.length_pos_iff.mpr h3
    have hlt : t.natAbs < 2 ^ 61 := by omega
    have hc63 : (cs.length : Int) ≤ 63 := by omega
    have kW : CDivW r0 k ∧ CDivW 0 k := by
      have : k.natAbs.log2 < 9000 := Nat.lt_of_lt_of_le (PySem.Flt.log2_lt_of (by decide) (show k.natAbs < 2 ^ 200 by omega)) (by decide)
      exact ⟨⟨k0, this⟩, ⟨k0, this⟩⟩
    refine ⟨_, (pss_cons (ps_if (pt_cmpR op_gt (pe_ix (x_ix K) (pv 0) pe_int (fun _ _ => rfl)) pe_int (nomark _)) (pss_cons (ps_set (i := 2) sc_law_draw.nd rfl (Or.inl rfl) (pe_op op_mod (pe_callTy call_intX (by rfl) T.b_int (by decide +kernel) (pa_cons (pe_ix (x_ix K) (pv 0) pe_int (fun _ _ => rfl)) pa_nil)) (pv 1)))
  (pss_cons (ps_asg (pe_op op_fdivW (pe_ix (x_ix K) (pv 0) pe_int (fun _ _ => rfl)) (pv 1)) (pg_sub (pv 0) pe_int set_list))
  (pss_one (ps_ret (pv 2))))) pss_nil)
  (pss_cons (ps_set (i := 3) sc_law_draw.nd rfl (Or.inl rfl) (pe_ix (x_ix K) (pv 0) pe_int (fun _ _ => rfl)))
  (pss_cons (ps_asg (pe_op (x_add K) (pv 3) pe_int) (pg_sub (pv 0) pe_int set_list))
  (pss_cons (ps_set (i := 4) sc_law_draw.nd rfl (Or.inl rfl) (pe_ix (x_ix K) (pv 0) pe_int (fun _ _ => rfl)))
  (pss_cons (ps_set (i := 5) sc_law_draw.nd rfl (Or.inl rfl) (pe_ix (x_ix K) (pv 4) (pe_op op_mod (pe_callTy call_intX (by rfl) T.b_int (by decide +kernel) (pa_cons (pv 3) pa_nil)) (pe_callB (x_len K) (by rfl) T.b_len (by decide +kernel) (pa_cons (pv 4) pa_nil))) (fun _ _ => rfl)))
  (pss_cons (ps_if (PW.pt (pw_and (pt_cmpR op_lt (pv 3) (pe_callB (x_len K) (by rfl) T.b_len (by decide +kernel) (pa_cons (pv 4) pa_nil)) (nomark _)) (pw_and1 (pt_cmpR op_ge (pv 5) (pe_op op_pow pe_int pe_int) (nomark _))))) (pss_cons (ps_asg (pe_op op_fdivW (pv 5) (pv 1)) (pg_sub (pv 0) pe_int set_list))
  (pss_one (ps_ret (pe_op op_mod (pe_callTy call_intX (by rfl) T.b_int (by decide +kernel) (pa_cons (pv 5) pa_nil)) (pv 1))))) pss_nil)
  (pss_cons (ps_set (i := 6) sc_law_draw.nd rfl (Or.inl rfl) (pe_op op_mod (pe_callTy call_intX (by rfl) T.b_int (by decide +kernel) (pa_cons (pe_op (x_add K) (pe_op (x_add K) (pe_op op_mul (pe_op (x_add K) (pv 5) pe_int) pe_int) (pe_op op_mul (pe_op op_mul (pv 3) (pv 3)) pe_int)) (pe_op op_mul (pv 3) pe_int)) pa_nil)) pe_int))
  (pss_cons (ps_set (i := 6) sc_law_draw.nd rfl (Or.inl rfl) (pe_op op_mod (pe_callTy call_intX (by rfl) T.b_int (by decide +kernel) (pa_cons (pe_op (x_add K) (pe_op op_mul (pv 6) pe_int) (pe_op op_mul (pe_op (x_add K) (pv 3) pe_int) pe_int)) pa_nil)) pe_int))
  (pss_one (ps_ret (pe_op op_mod (pe_callTy call_intX (by rfl) T.b_int (by decide +kernel) (pa_cons (pe_op op_fdivW (pv 6) pe_int) pa_nil)) (pv 1)))))))))))), ?_⟩
    refine ⟨_, rfl, .inl ⟨b, _, 2, .int r0, rfl, rfl, SqL.of h1, rfl, ?_⟩⟩
    refine ⟨r0, 0, rfl, rfl, _, rfl, ?_⟩
    refine dec_gt (fun hr0 => ?_) (fun hr0 => ?_)
    · refine ⟨_, rfl, .inl ⟨b, _, 2, .int r0, rfl, rfl, SqL.of h1, rfl, .inl ⟨r0, rfl, _, rfl, r0, k, rfl, rfl, k0, ?_⟩⟩⟩
      refine ⟨_, rfl, .inl ⟨b, _, 2, .int r0, rfl, rfl, SqL.of h1, rfl, _, rfl, r0, k, rfl, rfl, kW.1, ?_⟩⟩
      refine ⟨_, rfl, b, _, 2, 2, rfl, rfl, h1, rfl, _, rfl, ?_⟩
      exact Qf _ t (r0 / k) _ (Int.emod_nonneg _ (by omega)) (Int.emod_lt_of_pos _ k0) h6 (by omega) (Int.ediv_nonneg h8 (by omega)) rfl
    · refine ⟨_, rfl, .inl ⟨b, _, 1, .int t, rfl, rfl, SqL.of h1, rfl, ?_⟩⟩
      -- bag[1] = turn + 1
      refine ⟨_, rfl, .inl ⟨t, 1, rfl, rfl, _, rfl, b, _, 1, 1, rfl, rfl, h1, rfl, ?_⟩⟩
      have g1 : upd H b (.lst [.ref q, .int (t + 1), .int r0]) b = some (.lst [.ref q, .int (t + 1), .int r0]) := upd_same
      have g2 : upd H b (.lst [.ref q, .int (t + 1), .int r0]) q = some (.lst (cs.map V.int)) := by rw [upd_ne nqb]; exact h2
      -- cells = bag[0]; cell = cells[int(turn) % len(cells)]
      refine ⟨_, rfl, .inl ⟨b, _, 0, .ref q, rfl, rfl, SqL.of g1, rfl, ?_⟩⟩
      have hm0 : 0 ≤ t % (cs.length : Int) := Int.emod_nonneg _ (by omega)
      have hm1 : t % (cs.length : Int) < cs.length := Int.emod_lt_of_pos _ (by omega)
      obtain ⟨j, hj⟩ : ∃ j : Nat, t % (cs.length : Int) = j := ⟨(t % (cs.length : Int)).toNat, by omega⟩
      have hjl : j < cs.length := by omega
      have hat : atI (cs.map V.int) (t % (cs.length : Int)) = some (.int cs[j]) := by
        rw [hj]
        exact atI_nat (by rw [List.getElem?_map, List.getElem?_eq_getElem hjl]; rfl)
      have hc0 : 0 ≤ cs[j] := h4 _ (List.getElem_mem hjl)
      refine ⟨_, rfl, _, rfl, .inl ⟨t, rfl, _, rfl, .inl ⟨q, _, rfl, .inl (SqL.of g2), t, _, rfl, rfl, (by rw [List.length_map]; omega), ?_⟩⟩⟩
      refine .inl ⟨q, _, _, .int cs[j], rfl, rfl, SqL.of g2, by rw [List.length_map]; exact hat, ?_⟩
      generalize hcell : cs[j] = cell at hc0
      have fin : ∀ m : Int, 0 ≤ m % k ∧ m % k < k := fun m => ⟨Int.emod_nonneg _ (by omega), Int.emod_lt_of_pos _ k0⟩
      have tB : -(2 ^ 64) < t ∧ t < 2 ^ 64 := by omega
      unfold gName
      dsimp only
      refine st_seq ?_
      refine ifs_ans (decide (t < cs.length) && decide (10 ^ 18 ≤ cell)) (ans_and2 (fun Q' q' => ⟨_, rfl, _, rfl, .inl ⟨q, _, rfl, .inl (SqL.of g2), t, _, rfl, rfl, _, rfl, by rw [List.length_map]; exact q'⟩⟩) (fun Q' q' => ⟨_, rfl, 10, 18, rfl, rfl, ⟨by decide, by decide, by decide⟩, _, _, rfl, rfl, _, rfl, q'⟩)) (fun hb1 => ?_) (fun hb1 => ?_)
      · have kc : CDivW cell k := ⟨k0, kW.1.2⟩
        refine ⟨_, rfl, _, rfl, cell, k, rfl, rfl, kc, ?_⟩
        refine ⟨_, rfl, b, _, 2, 2, rfl, rfl, g1, rfl, _, rfl, .inl ⟨cell, rfl, _, rfl, cell, k, rfl, rfl, k0, ?_⟩⟩
        refine Qf _ (t + 1) (cell / k) _ (fin cell).1 (fin cell).2 (by omega) (by omega) (Int.ediv_nonneg hc0 (by omega)) ?_
        rw [upd_upd]; rfl
      · refine ⟨_, rfl, .inl ⟨cell, 17, rfl, rfl, _, _, rfl, rfl, .inr (by decide), ?_⟩⟩
        refine ⟨_, rfl, _, rfl, t, t, rfl, rfl, .inl tB, _, _, rfl, rfl, .inr (by decide), .inl ⟨_, _, rfl, rfl, ?_⟩⟩
        refine ⟨_, rfl, _, _, rfl, rfl, .inr (by decide), .inl ⟨_, _, rfl, rfl, .inl ⟨_, rfl, _, _, rfl, rfl, (by show (0 : Int) < 2147483647; decide), ?_⟩⟩⟩
        refine ⟨_, rfl, _, _, rfl, rfl, .inr (by decide), _, rfl, .inl ⟨t, 3, rfl, rfl, _, _, rfl, rfl, .inr (by decide), .inl ⟨_, _, rfl, rfl, .inl ⟨_, rfl, _, _, rfl, rfl, (by show (0 : Int) < 2147483399; decide), ?_⟩⟩⟩⟩
        refine ⟨_, rfl, _, _, rfl, rfl, ⟨by decide, by decide +kernel⟩, .inl ⟨_, rfl, _, rfl, _, _, rfl, rfl, k0, ?_⟩⟩
        exact Qf _ (t + 1) r0 _ (fin _).1 (fin _).2 (by omega) (by omega) h8 rfl
end
end Toy
namespace Toy
open PySem L2 L3
/-! ### the data: entries, copies -/
structure Ent where
  nm : Str
  ks : List Int
  v : Int
  deriving DecidableEq
def entD (e : Ent) : D := .tup [.str e.nm, .tup (e.ks.map .int), .int e.v]
def copyD (es : List Ent) : D := .tup (es.map entD)
def keyO : Option (List Int) → D
  | none => .non
  | some ks => .tup (ks.map .int)
/-- what fits the model: names without odd signs, keys not too long -/
def okE (e : Ent) : Prop := fit (entD e) = true ∧ keyD (entD e) = true
theorem eq_ints : ∀ (a b : List Int), PyData.eqvAll (dpyAll (a.map D.int)) (dpyAll (b.map D.int)) = decide (a = b)
  | [], [] => by simp [dpyAll, PyData.eqvAll]
  | [], _ :: _ => by simp [dpyAll, PyData.eqvAll]
  | _ :: _, [] => by simp [dpyAll, PyData.eqvAll]
  | x :: a, y :: b => by
    have ih := eq_ints a b
    show ((x == y) && PyData.eqvAll (dpyAll (a.map D.int)) (dpyAll (b.map D.int))) = _
    rw [ih]
    by_cases h : x = y
    · subst h; by_cases h2 : a = b <;> simp [h2]
    · simp [h]
theorem eq_str (a b : Str) : eqD (.str a) (.str b) = decide (a = b) := by
  show (a == b) = decide (a = b)
  by_cases h : a = b <;> simp [h]
theorem eq_tupI (a b : List Int) : eqD (.tup (a.map .int)) (.tup (b.map .int)) = decide (a = b) := eq_ints a b
theorem eq_ent (a b : Ent) : eqD (entD a) (entD b) = decide (a = b) := by
  have h1 : eqD (entD a) (entD b) = ((a.nm == b.nm) && (PyData.eqvAll (dpyAll (a.ks.map D.int)) (dpyAll (b.ks.map D.int)) && ((a.v == b.v) && true))) := rfl
  rw [h1, eq_ints]
  obtain ⟨n1, k1, v1⟩ := a
  obtain ⟨n2, k2, v2⟩ := b
  by_cases e1 : n1 = n2 <;> by_cases e2 : k1 = k2 <;> by_cases e3 : v1 = v2 <;> simp [e1, e2, e3]
theorem fitAll_mem {ds : List D} {d : D} (h : fit (.tup ds) = true) (hd : d ∈ ds) : fit d = true := by
  have hp := fit_p h
  have hs := fit_s h
  unfold fit
  rw [Bool.and_eq_true]
  refine ⟨plainAll_mem hp hd, ?_⟩
  unfold SeqAt.shaped at hs ⊢
  rw [Bool.and_eq_true] at hs ⊢
  have hc : PyData.canLayAll0 (dpyAll ds) = true := hs.1
  have hdp : PyData.depthAll (dpyAll ds) + 1 ≤ 64 := of_decide_eq_true hs.2
  have key : ∀ ds : List D, d ∈ ds → PyData.canLayAll0 (dpyAll ds) = true → PyData.canLay0 (dpy d) = true ∧ PyData.depth (dpy d) ≤ PyData.depthAll (dpyAll ds) := by
    intro ds
    induction ds with
    | nil => intro q; cases q
    | cons x xs ih =>
      intro q hc
      have hc' : (PyData.canLay0 (dpy x) && PyData.canLayAll0 (dpyAll xs)) = true := hc
      rw [Bool.and_eq_true] at hc'
      show _ ∧ _ ≤ max (PyData.depth (dpy x)) (PyData.depthAll (dpyAll xs))
      rcases List.mem_cons.mp q with e | e
      · rw [e]; exact ⟨hc'.1, by omega⟩
      · obtain ⟨g1, g2⟩ := ih e hc'.2
        exact ⟨g1, by omega⟩
  obtain ⟨g1, g2⟩ := key ds hd hc
  exact ⟨g1, decide_eq_true (by omega)⟩
theorem ok_nm {e : Ent} (h : okE e) : fit (.str e.nm) = true := fitAll_mem h.1 (by simp)
theorem ok_ks {e : Ent} (h : okE e) : fit (.tup (e.ks.map .int)) = true := fitAll_mem h.1 (by simp)
/-! ### plain lists -/
section
variable {α : Type} [DecidableEq α]
def firsts (l : List α) : List α := l.foldl (fun acc x => if x ∈ acc then acc else acc ++ [x]) []
theorem firsts_snoc (l : List α) (x : α) : firsts (l ++ [x]) = if x ∈ firsts l then firsts l else firsts l ++ [x] := by
  unfold firsts
  rw [List.foldl_append]; rfl
theorem snoc_ind {P : List α → Prop} (h0 : P []) (h1 : ∀ l x, P l → P (l ++ [x])) (l : List α) : P l := by
  have : ∀ m : List α, P m.reverse := by
    intro m
    induction m with
    | nil => exact h0
    | cons x m ih => rw [List.reverse_cons]; exact h1 _ _ ih
  have q := this l.reverse
  rw [List.reverse_reverse] at q
  exact q
theorem mem_firsts (l : List α) : ∀ x, x ∈ firsts l ↔ x ∈ l := by
  refine snoc_ind (P := fun l => ∀ x, x ∈ firsts l ↔ x ∈ l) (fun x => Iff.rfl) (fun l y ih x => ?_) l
  rw [firsts_snoc]
  by_cases h : y ∈ firsts l
  · rw [if_pos h, ih]
    constructor
    · exact fun q => List.mem_append_left _ q
    · intro q
      rcases List.mem_append.mp q with q | q
      · exact q
      · rw [List.mem_singleton.mp q]; exact (ih y).mp h
  · rw [if_neg h]
    simp [ih]
theorem nodup_firsts (l : List α) : (firsts l).Nodup := by
  refine snoc_ind (P := fun l => (firsts l).Nodup) List.nodup_nil (fun l y ih => ?_) l
  rw [firsts_snoc]
  by_cases h : y ∈ firsts l
  · rw [if_pos h]; exact ih
  · rw [if_neg h]
    exact List.nodup_append.mpr ⟨ih, by simp, fun a ha b hb => by rw [List.mem_singleton.mp hb]; exact fun e => h (e ▸ ha)⟩
theorem firsts_le (l : List α) : (firsts l).length ≤ l.length := by
  refine snoc_ind (P := fun l => (firsts l).length ≤ l.length) (Nat.le_refl _) (fun l y ih => ?_) l
  rw [firsts_snoc, List.length_append]
  by_cases h : y ∈ firsts l
  · rw [if_pos h]; simp; omega
  · rw [if_neg h, List.length_append]; simp; omega
/-- those that do not stand earlier -/
def earliest : List α → List α → List α
  | _, [] => []
  | pre, x :: l => if x ∈ pre then earliest (pre ++ [x]) l else x :: earliest (pre ++ [x]) l
theorem mem_earliest : ∀ (l pre : List α) (x : α), x ∈ earliest pre l ↔ x ∈ l ∧ x ∉ pre
  | [], pre, x => by simp [earliest]
  | y :: l, pre, x => by
    unfold earliest
    have ih := mem_earliest l (pre ++ [y]) x
    by_cases h : y ∈ pre
    · rw [if_pos h, ih]
      constructor
      · rintro ⟨a, b⟩
        exact ⟨List.mem_cons_of_mem _ a, fun q => b (List.mem_append_left _ q)⟩
      · rintro ⟨a, b⟩
        have ne : x ≠ y := fun e => b (e ▸ h)
        refine ⟨(List.mem_cons.mp a).resolve_left ne, fun q => ?_⟩
        rcases List.mem_append.mp q with q | q
        · exact b q
        · exact ne (List.mem_singleton.mp q)
    · rw [if_neg h, List.mem_cons, ih]
      constructor
      · rintro (e | ⟨a, b⟩)
        · subst e; exact ⟨List.mem_cons_self, h⟩
        · exact ⟨List.mem_cons_of_mem _ a, fun q => b (List.mem_append_left _ q)⟩
      · rintro ⟨a, b⟩
        by_cases e : x = y
        · exact .inl e
        · refine .inr ⟨(List.mem_cons.mp a).resolve_left e, fun q => ?_⟩
          rcases List.mem_append.mp q with q | q
          · exact b q
          · exact e (List.mem_singleton.mp q)
theorem nodup_earliest : ∀ (l pre : List α), (earliest pre l).Nodup
  | [], _ => List.nodup_nil
  | y :: l, pre => by
    unfold earliest
    by_cases h : y ∈ pre
    · rw [if_pos h]; exact nodup_earliest l _
    · rw [if_neg h]
      exact List.nodup_cons.mpr ⟨fun q => ((mem_earliest l _ _).mp q).2 (by simp), nodup_earliest l _⟩
theorem sub_earliest : ∀ (l pre : List α), (earliest pre l).Sublist l
  | [], _ => List.Sublist.refl _
  | y :: l, pre => by
    unfold earliest
    by_cases h : y ∈ pre
    · rw [if_pos h]; exact (sub_earliest l _).cons _
    · rw [if_neg h]; exact (sub_earliest l _).cons_cons _
end
/-! ### the order of entries -/
abbrev leE (a b : Ent) : Bool := LeD (entD a) (entD b)
def sortE (E : List Ent) : List Ent := E.mergeSort leE
theorem total_D : PySem.W.TotalLe LeD := PySem.W.sortLe_total _ _ _
theorem total_E : PySem.W.TotalLe leE := ⟨fun a b c h1 h2 => total_D.trans _ _ _ h1 h2, fun a b => total_D.total _ _⟩
theorem toks_ints : ∀ (a b : List Int) (A B : List (Int ⊕ List Nat)), PySem.W.keyToksAll (dpyAll (a.map D.int)) ++ A = PySem.W.keyToksAll (dpyAll (b.map D.int)) ++ B → a = b ∧ A = B
  | [], [], A, B, h => by
    have h' : Sum.inl 0 :: A = Sum.inl 0 :: B := h
    exact ⟨rfl, (List.cons.inj h').2⟩
  | [], y :: b, A, B, h => by
    have h' : (Sum.inl 0 : Int ⊕ List Nat) :: A = Sum.inl 1 :: (Sum.inl y :: (PySem.W.keyToksAll (dpyAll (b.map D.int)) ++ B)) := h
    exact absurd (Sum.inl.inj (List.cons.inj h').1) (by decide)
  | x :: a, [], A, B, h => by
    have h' : (Sum.inl 1 : Int ⊕ List Nat) :: (Sum.inl x :: (PySem.W.keyToksAll (dpyAll (a.map D.int)) ++ A)) = Sum.inl 0 :: B := h
    exact absurd (Sum.inl.inj (List.cons.inj h').1) (by decide)
  | x :: a, y :: b, A, B, h => by
    have h' : (Sum.inl 1 : Int ⊕ List Nat) :: (Sum.inl x :: (PySem.W.keyToksAll (dpyAll (a.map D.int)) ++ A)) = Sum.inl 1 :: (Sum.inl y :: (PySem.W.keyToksAll (dpyAll (b.map D.int)) ++ B)) := h
    have h1 := (List.cons.inj h').2
    have h2 := List.cons.inj h1
    obtain ⟨e1, e2⟩ := toks_ints a b A B h2.2
    exact ⟨by rw [Sum.inl.inj h2.1, e1], e2⟩
theorem anti_E (a b : Ent) (h1 : leE a b = true) (h2 : leE b a = true) : a = b := by
  have h1' : (!PySem.W.dataLt (dpy (entD b)) (dpy (entD a))) = true := h1
  have h2' : (!PySem.W.dataLt (dpy (entD a)) (dpy (entD b))) = true := h2
  have h1'' : PySem.W.dataLt (dpy (entD b)) (dpy (entD a)) = false := by simpa using h1'
  have h2'' : PySem.W.dataLt (dpy (entD a)) (dpy (entD b)) = false := by simpa using h2'
  have e : PySem.W.keyToks (dpy (entD a)) = PySem.W.keyToks (dpy (entD b)) := (PyProof.Rows.listOrd PyProof.Rows.itemOrd).total _ _ h2'' h1''
  have e' : Sum.inl 1 :: Sum.inr a.nm.cps.toList :: Sum.inl 1 :: (PySem.W.keyToksAll (dpyAll (a.ks.map D.int)) ++ (Sum.inl 1 :: Sum.inl a.v :: [Sum.inl 0])) = (Sum.inl 1 :: Sum.inr b.nm.cps.toList :: Sum.inl 1 :: (PySem.W.keyToksAll (dpyAll (b.ks.map D.int)) ++ (Sum.inl 1 :: Sum.inl b.v :: [Sum.inl 0])) : List (Int ⊕ List Nat)) := e
  have e1 := List.cons.inj (List.cons.inj e').2
  obtain ⟨g1, g2⟩ := toks_ints _ _ _ _ (List.cons.inj e1.2).2
  have g3 := List.cons.inj (List.cons.inj g2).2
  obtain ⟨n1, k1, v1⟩ := a
  obtain ⟨n2, k2, v2⟩ := b
  have q1 : n1 = n2 := PySem.W.str_of_cps (Sum.inr.inj e1.1)
  have q2 : k1 = k2 := g1
  have q3 : v1 = v2 := Sum.inl.inj g3.1
  rw [q1, q2, q3]
theorem sortE_perm (E : List Ent) : (sortE E).Perm E := List.mergeSort_perm _ _
theorem sortE_sorted (E : List Ent) : (sortE E).Pairwise fun a b => leE a b = true := PySem.W.sort_pairwise total_E E
/-- two rising rows with the same, each once, are one -/
theorem one_row {l m : List Ent} (h1 : l.Pairwise fun a b => leE a b = true) (h2 : m.Pairwise fun a b => leE a b = true) (n1 : l.Nodup) (n2 : m.Nodup) (e : ∀ x, x ∈ l ↔ x ∈ m) : l = m := by
  have p : l.Perm m := (List.perm_ext_iff_of_nodup n1 n2).mpr e
  exact p.eq_of_pairwise (fun a b _ _ x y => anti_E a b x y) h1 h2
theorem earliest_sort (E : List Ent) : earliest [] (sortE E) = sortE (firsts E) := by
  refine one_row ((sortE_sorted E).sublist (sub_earliest _ _)) (sortE_sorted _) (nodup_earliest _ _) ((sortE_perm _).nodup_iff.mpr (nodup_firsts E)) fun x => ?_
  rw [mem_earliest, (sortE_perm E).mem_iff, (sortE_perm (firsts E)).mem_iff, mem_firsts]
  simp
theorem sortD_ent (E : List Ent) : sortD (E.map entD) = (sortE E).map entD := (PySem.W.sort_maps (r := leE) (s := LeD) entD fun _ _ _ _ => rfl).symm
theorem alike_E (E : List Ent) : PySem.W.AllAlike ((E.map entD).map dpy) := by
  rw [List.map_map]
  refine PySem.W.AllAlike.of fun a b => ?_
  have h : PySem.W.alike (dpy (entD a)) (dpy (entD b)) = (true && (PySem.W.alikeAll (dpyAll (a.ks.map D.int)) (dpyAll (b.ks.map D.int)) && (true && true))) := rfl
  show PySem.W.alike (dpy (entD a)) (dpy (entD b)) = true
  rw [h, dpyAll_map, dpyAll_map, List.map_map, List.map_map]
  have := PySem.W.alike_ints a.ks b.ks
  have e : (dpy ∘ D.int) = PyData.int := rfl
  rw [e, this]; rfl
theorem sortable_E (E : List Ent) : PySem.W.Sortable ((E.map entD).map dpy) := by
  rw [List.map_map]
  exact PySem.W.Sortable.tuples fun b => ⟨_, _, rfl⟩
theorem depth_E (e : Ent) : (dpy (entD e)).depth ≤ 2 := by
  have h : (dpy (entD e)).depth = max 0 (max (PyData.depthAll (dpyAll (e.ks.map D.int)) + 1) (max 0 0)) + 1 := rfl
  have h2 : PyData.depthAll (dpyAll (e.ks.map D.int)) = 0 := by
    rw [dpyAll_map, List.map_map]
    exact PySem.W.depth_ints e.ks
  rw [h, h2]; decide
theorem fit_ents {E : List Ent} (h : ∀ e ∈ E, okE e) : fit (.lst (E.map entD)) = true := (fit_list fun d hd => by
  obtain ⟨e, he, rfl⟩ := List.mem_map.mp hd
  exact ⟨(h e he).1, Nat.le_trans (depth_E e) (by decide)⟩).1
theorem plain_ents (E : List Ent) : plainAll (E.map entD) = true := by
  have hInts : ∀ ks : List Int, plainAll (ks.map D.int) = true := fun ks => by
    induction ks with
    | nil => rfl
    | cons k ks ih => show (true && plainAll (ks.map D.int)) = true; rw [ih]; rfl
  induction E with
  | nil => rfl
  | cons e E ih =>
    have h : plainAll ((e :: E).map entD) = ((true && (plainAll (e.ks.map D.int) && (true && true))) && plainAll (E.map entD)) := rfl
    rw [h, hInts, ih]; rfl
theorem inD_ent (e : Ent) (E : List Ent) : inD (entD e) (E.map entD) = decide (e ∈ E) := by
  unfold inD
  rw [List.any_map]
  by_cases h : e ∈ E
  · rw [decide_eq_true h]
    exact List.any_eq_true.mpr ⟨e, h, by show eqD (entD e) (entD e) = true; rw [eq_ent]; simp⟩
  · rw [decide_eq_false h]
    refine List.any_eq_false.mpr fun x hx => ?_
    show ¬ eqD (entD x) (entD e) = true
    rw [eq_ent]
    simp only [decide_eq_true_eq]
    exact fun q => h (q ▸ hx)
theorem count_ent (e : Ent) (E : List Ent) : (E.map entD).countP (fun z => eqD z (entD e)) = E.count e := by
  rw [List.countP_map]
  unfold List.count
  refine List.countP_congr fun x _ => ?_
  show eqD (entD x) (entD e) = true ↔ (x == e) = true
  rw [eq_ent]; simp
/-! ### the dict of numbers -/
theorem nk_ints : ∀ (a b : List Int), nkAll (a.map D.int) = nkAll (b.map D.int) → a = b
  | [], [], _ => rfl
  | [], _ :: _, h => by cases h
  | _ :: _, [], h => by cases h
  | x :: a, y :: b, h => by
    have h' : NestedKey.num x :: nkAll (a.map D.int) = NestedKey.num y :: nkAll (b.map D.int) := h
    obtain ⟨h1, h2⟩ := List.cons.inj h'
    rw [NestedKey.num.inj h1, nk_ints a b h2]
theorem nk_ent (a b : Ent) : nk (entD a) = nk (entD b) ↔ a = b := by
  constructor
  · intro h
    have h' : NestedKey.tup [.text a.nm, .tup (nkAll (a.ks.map D.int)), .num a.v] = NestedKey.tup [.text b.nm, .tup (nkAll (b.ks.map D.int)), .num b.v] := h
    have h1 := NestedKey.tup.inj h'
    have h2 := List.cons.inj h1
    have h3 := List.cons.inj h2.2
    have h4 := List.cons.inj h3.2
    obtain ⟨n1, k1, v1⟩ := a
    obtain ⟨n2, k2, v2⟩ := b
    have q1 : n1 = n2 := NestedKey.text.inj h2.1
    have q2 : k1 = k2 := nk_ints _ _ (NestedKey.tup.inj h3.1)
    have q3 : v1 = v2 := NestedKey.num.inj h4.1
    rw [q1, q2, q3]
  · intro h; rw [h]
def kvOf (E : List Ent) : List (D × D) := (firsts E).map fun e => (entD e, D.int (E.count e : Nat))
theorem look_map (f : Ent → D) (x : Ent) : ∀ (l : List Ent), lookD (l.map fun e => (entD e, f e)) (entD x) = if x ∈ l then some (f x) else none
  | [] => rfl
  | y :: l => by
    have ih := look_map f x l
    unfold lookD at ih ⊢
    rw [List.map_cons]
    by_cases h : y = x
    · subst h
      rw [List.find?_cons_of_pos (by simp), if_pos List.mem_cons_self]; rfl
    · rw [List.find?_cons_of_neg (by simpa [nk_ent] using h), ih]
      have : (x ∈ y :: l) ↔ x ∈ l := by
        rw [List.mem_cons]
        exact ⟨fun q => q.resolve_left fun e => h e.symm, .inr⟩
      by_cases q : x ∈ l
      · rw [if_pos q, if_pos (this.mpr q)]
      · rw [if_neg q, if_neg fun z => q (this.mp z)]
theorem look_kv (E : List Ent) (x : Ent) : lookD (kvOf E) (entD x) = if x ∈ E then some (.int (E.count x : Nat)) else none := by
  unfold kvOf
  rw [look_map (fun e => D.int (E.count e : Nat))]
  by_cases h : x ∈ E
  · rw [if_pos h, if_pos ((mem_firsts E x).mpr h)]
  · rw [if_neg h, if_neg fun q => h ((mem_firsts E x).mp q)]
theorem get_kv (E : List Ent) (x : Ent) : (lookD (kvOf E) (entD x)).getD (.int 0) = .int (E.count x : Nat) := by
  rw [look_kv]
  by_cases h : x ∈ E
  · rw [if_pos h]; rfl
  · rw [if_neg h, List.count_eq_zero_of_not_mem h]; rfl
theorem put_kv (E : List Ent) (x : Ent) : putD (kvOf E) (entD x) (.int ((E.count x : Nat) + 1)) = kvOf (E ++ [x]) := by
  unfold putD
  rw [look_kv]
  have cnt : ∀ e : Ent, (E ++ [x]).count e = E.count e + if x = e then 1 else 0 := fun e => by
    rw [List.count_append, List.count_singleton]
    by_cases h : x = e <;> simp [h]
  by_cases h : x ∈ E
  · rw [if_pos h]
    show List.map _ (kvOf E) = _
    unfold kvOf
    rw [firsts_snoc, if_pos ((mem_firsts E x).mpr h), List.map_map]
    refine List.map_congr_left fun e _ => ?_
    show (if nk (entD e) = nk (entD x) then (entD e, D.int ((E.count x : Nat) + 1)) else (entD e, D.int (E.count e : Nat))) = (entD e, D.int ((E ++ [x]).count e : Nat))
    rw [cnt]
    by_cases q : e = x
    · subst q
      rw [if_pos rfl, if_pos rfl]; rfl
    · rw [if_neg fun z => q ((nk_ent _ _).mp z), if_neg fun z => q z.symm]; rfl
  · rw [if_neg h]
    show kvOf E ++ [(entD x, D.int ((E.count x : Nat) + 1))] = _
    unfold kvOf
    rw [firsts_snoc, if_neg fun q => h ((mem_firsts E x).mp q), List.map_append]
    congr 1
    · refine List.map_congr_left fun e he => ?_
      rw [cnt, if_neg fun z => h (by rw [z]; exact (mem_firsts E e).mp he)]; rfl
    · show [(entD x, D.int ((E.count x : Nat) + 1))] = [(entD x, D.int ((E ++ [x]).count x : Nat))]
      rw [cnt, if_pos rfl]; rfl
theorem kv_keys (E : List Ent) : (kvOf E).map (·.1) = (firsts E).map entD := by
  unfold kvOf
  rw [List.map_map]; rfl
theorem plain_ints : ∀ ks : List Int, plainAll (ks.map D.int) = true
  | [] => rfl
  | k :: ks => by show (true && plainAll (ks.map D.int)) = true; rw [plain_ints ks]; rfl
theorem can_ints : ∀ ks : List Int, PyData.canLayAll0 (dpyAll (ks.map D.int)) = true
  | [] => rfl
  | k :: ks => by show (true && PyData.canLayAll0 (dpyAll (ks.map D.int))) = true; rw [can_ints ks]; rfl
theorem key_ints : ∀ ks : List Int, nkOkAll (ks.map D.int) = true
  | [] => rfl
  | k :: ks => by show (true && nkOkAll (ks.map D.int)) = true; rw [key_ints ks]; rfl
theorem dep_ints : ∀ ks : List Int, PyData.depthAll (dpyAll (ks.map D.int)) = 0
  | [] => rfl
  | k :: ks => by show max 0 (PyData.depthAll (dpyAll (ks.map D.int))) = 0; rw [dep_ints ks]; rfl
theorem ndep_ints : ∀ ks : List Int, NestedKey.depthAll (nkAll (ks.map D.int)) = 0
  | [] => rfl
  | k :: ks => by show max 0 (NestedKey.depthAll (nkAll (ks.map D.int))) = 0; rw [ndep_ints ks]; rfl
theorem fit_ints (ks : List Int) : fit (.tup (ks.map D.int)) = true := by
  have h : fit (.tup (ks.map D.int)) = (plainAll (ks.map D.int) && (PyData.canLayAll0 (dpyAll (ks.map D.int)) && decide (PyData.depthAll (dpyAll (ks.map D.int)) + 1 ≤ 64))) := rfl
  rw [h, plain_ints, can_ints, dep_ints]; rfl
theorem ok_of {nm : Str} (hn : fit (.str nm) = true) (ks : List Int) (v : Int) : okE ⟨nm, ks, v⟩ := by
  refine ⟨(fit_list (ds := [.str nm, .tup (ks.map .int), .int v]) fun d hd => ?_).2, ?_⟩
  · rcases List.mem_cons.mp hd with e | hd
    · subst e; exact ⟨hn, Nat.zero_le _⟩
    · rcases List.mem_cons.mp hd with e | hd
      · subst e
        refine ⟨fit_ints ks, ?_⟩
        show PyData.depthAll (dpyAll (ks.map D.int)) + 1 ≤ 60
        rw [dep_ints]; decide
      · rcases List.mem_cons.mp hd with e | hd
        · subst e; exact ⟨rfl, Nat.zero_le _⟩
        · cases hd
  · have h : keyD (entD ⟨nm, ks, v⟩) = ((true && (nkOkAll (ks.map D.int) && (true && true))) && decide (max 0 (max (NestedKey.depthAll (nkAll (ks.map D.int)) + 1) (max 0 0)) + 1 ≤ 8)) := rfl
    rw [h, key_ints, ndep_ints]; rfl
end Toy
namespace L3
open PySem L2
theorem ws_cut {c : Ctx} {ρ : List SD} {n : Nat} {ts us : TS} {Ψ : Out} (Nx : Nat → List SD → Prop) (h : WS c ts ρ n { nx := Nx, rt := fun _ _ => False }) (k : ∀ n1 ρ1, Nx n1 ρ1 → WS c us ρ1 n1 Ψ) : WS c (tSeq ts us) ρ n Ψ :=
  ws_seq (h.mono (fun n1 ρ1 q => k n1 ρ1 q) (fun _ _ q => q.elim) (fun _ _ q => q.elim) (fun _ _ q => q.elim))
theorem ws_cut2 {c : Ctx} {ρ : List SD} {n : Nat} {ts us : TS} {Ψ : Out} (Nx : Nat → List SD → Prop) (h : WS c ts ρ n { nx := Nx, rt := Ψ.rt }) (k : ∀ n1 ρ1, Nx n1 ρ1 → WS c us ρ1 n1 Ψ) : WS c (tSeq ts us) ρ n Ψ :=
  ws_seq (h.mono (fun n1 ρ1 q => k n1 ρ1 q) (fun _ _ q => q) (fun _ _ q => q.elim) (fun _ _ q => q.elim))
end L3
namespace L3
open PySem L2
def forget : SD → SD
  | .val d => .val d
  | _ => .un
theorem Slots.forget {pr : Program} {wd : World} {K : PySem.W.Frag} {O : List Addr} {H : Hp} : ∀ {σ : List (Option V)} {ρ : List SD} {L : List Addr}, Slots pr wd K O H σ ρ L → Slots pr wd K O H σ (ρ.map L3.forget) []
  | _, _, _, .nil => .nil
  | _, _, _, .un s => .un s.forget
  | _, _, _, .val h s => .val h s.forget
  | _, _, _, .own _ _ s => .un s.forget
  | _, _, _, .dic _ s => .un s.forget
  | _, _, _, .dk _ s => .un s.forget
  | _, _, _, .tw _ s => .un s.forget
  | _, _, _, .ot _ _ s => .un s.forget
section
variable {P : Program} {w : World} {K : PySem.W.Frag} {O : List Addr} {bag : Option (Addr × Addr)} {p C dx : Addr} {H00 : Hp} {ρ : List SD} {n : Nat} {ks : List (Str × D)} {Φ : Nat → List (Str × D) → Prop} {ts us vs : TS}
theorem wnx_preF (h : ∀ H0, Same (hid (p :: bagB bag) H00) (hid (p :: bagB bag) H0) → WS ⟨P, w, K, p :: O, bag, H0⟩ ts ρ n { nx := fun n1 ρ1 => WNX P w K O bag p C dx H00 us (ρ1.map forget) n1 ks Φ, rt := fun _ _ => False }) : WNX P w K O bag p C dx H00 (tSeq ts us) ρ n ks Φ := fun H σ fs Dn h00 hp pO hf E q => by
  refine h H h00 (fun _ => none) [] σ H { Dn with nx := us Dn } E { nx := fun L n1 H1 σ1 ρ1 E1 hn => ?_, rt := fun _ _ _ _ _ _ _ h => h.elim, bk := fun _ _ _ _ _ _ h => h.elim, ct := fun _ _ _ _ _ _ h => h.elim }
  have pB : p ∉ bagB bag := fun z => by
    obtain ⟨q, hq⟩ := (mem_B (c := ⟨P, w, K, p :: O, bag, H⟩)).mp z
    obtain ⟨xs, hx⟩ := (E.bag p q hq).lst
    rw [hp] at hx; cases hx
  have hp1 : H1 p = some (.ins C dx fs) := (hid_some.mp (E1.base p _ (hid_some.mpr ⟨pB, hp⟩))).2
  have bO : ∀ a, a ∈ bagB bag → a ∈ p :: O := fun a ha => E.inO (show a ∈ (⟨P, w, K, p :: O, bag, H⟩ : Ctx).B from ha)
  have s0 : Same (hid (p :: O) H) (hid (p :: O) H1) := same_hid_more bO E1.base
  have sp : Same (hid (p :: bagB bag) H) (hid (p :: bagB bag) H1) := same_hid_more (fun a ha => List.mem_cons_of_mem _ ha) E1.base
  obtain ⟨Ls, sl, sb⟩ := E1.slots
  refine hn H1 σ1 fs Dn (h00.trans sp) hp1 pO (hf.mono s0) ?_ fun σ' fs' ks' n' H' s' b' hp' hf' kk' => q σ' fs' ks' n' H' (sp.trans s') b' hp' hf' kk'
  exact { nd := List.nodup_nil, fresh := (fun l hl => nomatch hl), slots := ⟨[], sl.forget.move (fun l hl => nomatch hl) (same_hid_sub fun a ha => List.mem_append_right _ ha), List.Sublist.refl _⟩, lst := (fun l hl => nomatch hl), bag := E1.bag, base := Same.refl _,
          pers := (fun _ _ e => nomatch e), bO := E1.bO, al := E1.al }
theorem wnx_assoc (h : WNX P w K O bag p C dx H00 (tSeq (tSeq ts us) vs) ρ n ks Φ) : WNX P w K O bag p C dx H00 (tSeq ts (tSeq us vs)) ρ n ks Φ := h
end
/-- what isinstance asks of an own class -/
structure IsaT (K : PySem.W.Frag) (C : Addr) : Prop where
  ha : PySem.W.findIn K (.ref C) "__class__" = some (some (.builtin "object.__class__"))
  hn : PySem.W.specialIn K (.builtin "object.__class__") "__get__" = some (some (.builtin "getset_descriptor.__get__"))
  htk : PySem.W.takesIn K (.builtin "object.__class__") = some true
  hm : PySem.W.mroIn K C (.type "object") = some true
theorem rc_isiO {K : PySem.W.Frag} {Φ : D → Prop} {C : Addr} {ks : List (Str × D)} (cl : Cls K C) (T : IsaT K C) (k : Φ (.bl true)) : RCD K (rIsi K) [.obj C ks, .adr C] Φ := fun O H xs Q rs no q => by
  obtain ⟨v, u, rfl, r1, r2⟩ := rs.two
  cases r2
  cases r1 with
  | obj h1 hf => exact ⟨_, .ref C, .ref C, .ref C, true, rfl, .own C, .base (.ins (hid_some.mp h1).2 cl T.ha T.hn T.htk T.hm), if_pos (by simp), q _ _ H (Same.refl _) (.bl _) k⟩
/-- a class whose __init__ may raise, as callers see it -/
structure Mnx (P : Program) (w : World) (K : PySem.W.Frag) (mg : Str → Option Value) (base : Heap) (C : Addr) (x : Str) (k : Nat) (ps : List Str) (dv : List V) (dw : List Value) (S : SpecIX) where
  fI : Addr
  fd : FuncData
  M : Mk K C fI
  cl : Cls K C
  G : FnOk P w K mg base (L2.CX P w) k fI fd ps (spIX K C S)
  m : mg x = some (.ref C)
  b : Binds K fd ps dw
  v : Vals dv dw
/-- a class with its own ==, as callers see it -/
structure On (P : Program) (w : World) (K : PySem.W.Frag) (mg : Str → Option Value) (base : Heap) (C : Addr) (k : Nat) (ps : List Str) (S : L3.Spec) where
  f : Addr
  fd : FuncData
  T : OwnEqT K C f
  G : FnOk P w K mg base CX0 k f fd ps (spD K S)
  b : Binds K fd ps []
theorem xa_false {c : Ctx} : XA c (fun _ _ _ _ => False) (fun _ _ _ _ => False) := fun _ _ _ _ _ _ _ _ _ _ _ _ _ _ h => h
end L3
namespace Toy
open PySem L2 L3
local macro_rules | `(tactic| walk_at "we1") => `(tactic| first
  | ((with_reducible refine' we_var ?hv ?_); (case hv => rfl))
  | (with_reducible refine we_int ?_)
  | (with_reducible refine we_str ?_)
  | (with_reducible refine we_bl ?_)
  | (with_reducible refine we_non ?_)
  | ((with_reducible refine' we_dix ?hv ?_); (case hv => rfl))
  | (with_reducible refine we_op ?_)
  | ((with_reducible refine' we_dget ?hv ?_); (case hv => rfl))
  | (with_reducible refine we_count ?_)
  | (with_reducible refine we_cb ?_)
  | (with_reducible refine we_call0 ?_)
  | (with_reducible refine we_tup ?_)
  | (with_reducible refine we_lst ?_)
  | (with_reducible refine we_if ?_)
  | (with_reducible refine we_not ?_)
  | (with_reducible refine we_and ?_)
  | (with_reducible refine we_or ?_)
  | (with_reducible refine we_isN ?_)
  | (with_reducible refine we_notN ?_)
  | (with_reducible refine we_sl ?_)
  | (with_reducible refine wa_cons ?_)
  | (with_reducible refine wa_nil ?_)
  | (with_reducible refine wt_test ?_)
  | (with_reducible refine wt_B ?_)
  | (with_reducible refine wt_and ?_)
  | (with_reducible refine wt_or ?_)
  | (with_reducible refine wt_not ?_)
  | (with_reducible refine wt_yes ?_)
  | (with_reducible refine wo_none ?_)
  | (with_reducible refine wo_some ?_)
  | ((with_reducible refine' r2_ix ?hx ?_); (case hx => rfl))
  | (with_reducible refine r2_isN ?_)
  | (with_reducible refine r2_notN ?_)
  | (with_reducible refine r2_lt ?_)
  | (with_reducible refine r2_le ?_)
  | (with_reducible refine r2_gt ?_)
  | (with_reducible refine r2_ge ?_)
  | (with_reducible refine r2_sub ?_)
  | (with_reducible refine r2_addI ?_)
  | (with_reducible refine r2_eqI ?_)
  | (with_reducible refine r2_neI ?_)
  | (with_reducible refine rc_int ?_)
  | (with_reducible refine rc_abs ?_)
  | ((with_reducible refine' rc_len ?hl ?_); (case hl => rfl))
  | (with_reducible refine wi_seq ?_)
  | (with_reducible refine wi_rng1 ?_)
  | (with_reducible refine wi_rng2 ?_)
  | (with_reducible refine wi_enum ?_)
  | (refine ⟨_, rfl, ?_⟩))
local macro_rules | `(tactic| walk_at "ws1") => `(tactic| first
  | (with_reducible refine ws_seq ?_)
  | (with_reducible refine ws_set ?_)
  | (with_reducible refine ws_ret ?_)
  | (with_reducible refine ws_if ?_)
  | (with_reducible refine ws_next ?_)
  | (with_reducible refine ws_asg ?_))
local macro_rules | `(tactic| walk_at "wg1") => `(tactic| first
  | (with_reducible refine wg_name (rw_name (by decide)) ?_)
  | (with_reducible refine wg_name (fun _ _ => trivial) ?_)
  | ((with_reducible refine' wg_tup ?hl ?_); (case hl => rfl))
  | (with_reducible refine wgs_cons rw_trans ?_)
  | (with_reducible refine wgs_nil rw_refl ?_)
  | (with_reducible refine wgs_cons (fun _ _ _ _ _ => trivial) ?_)
  | (with_reducible refine wgs_nil (fun _ => trivial) ?_))
local macro_rules | `(tactic| walk_at "go") => `(tactic| repeat' (first | walk_at "we1" | walk_at "wg1"))
section
variable {P : Program} {w : World} {K : PySem.W.Frag} {mg : Str → Option Value} {base : Heap}
/-- the signs of names -/
def letters : Str := "abcdefghijklmnopqrstuvwxyz"
def signs36 : Str := "abcdefghijklmnopqrstuvwxyz0123456789"
def isName (z : Str) : Bool := decide (1 ≤ z.cps.size) && decide (z.cps.size ≤ 8) && decide (z.cps.toList.headD 0 ∈ letters.cps.toList) && z.cps.toList.all fun u => decide (u ∈ signs36.cps.toList)
structure Txt2 (mg : Str → Option Value) (tL tS : Tok) : Prop where
  b : Txt mg
  c_LETTERS : mg "LETTERS" = some (.str letters tL)
  c_SIGNS : mg "SIGNS" = some (.str signs36 tS)
def inSigns : D → D
  | .str x => .bl (decide (x.cps.toList.headD 0 ∈ signs36.cps.toList))
  | _ => .non
/-! plain things -/
mutual
def thg : D → Bool
  | .non => true
  | .bl _ => true
  | .int _ => true
  | .str z => decide (z.cps.size ≤ 1000) && fit (.str z)
  | .lst xs => thgAll xs
  | .tup xs => thgAll xs
  | _ => false
def thgAll : List D → Bool
  | [] => true
  | x :: xs => thg x && thgAll xs
end
theorem thgAll_mem : ∀ {xs : List D} {x : D}, thgAll xs = true → x ∈ xs → thg x = true
  | y :: ys, x, h, hx => by
    have h' : (thg y && thgAll ys) = true := h
    rw [Bool.and_eq_true] at h'
    rcases List.mem_cons.mp hx with q | q
    · rw [q]; exact h'.1
    · exact thgAll_mem h'.2 q
theorem thgAll_of : ∀ {xs : List D}, (∀ x ∈ xs, thg x = true) → thgAll xs = true
  | [], _ => rfl
  | y :: ys, h => by
    show (thg y && thgAll ys) = true
    rw [Bool.and_eq_true]
    exact ⟨h y List.mem_cons_self, thgAll_of fun x hx => h x (List.mem_cons_of_mem _ hx)⟩
def wholeD : D → Bool
  | .int _ => true
  | _ => false
def isRowD : D → Bool
  | .lst _ => true
  | .tup _ => true
  | _ => false
def rowOf : D → List D
  | .lst xs => xs
  | .tup xs => xs
  | _ => []
def nameD : D → Bool
  | .str z => isName z
  | _ => false
def entB (d : D) : Bool := isRowD d && match rowOf d with
  | [a, b, c] => nameD a && isRowD b && decide ((rowOf b).length ≤ 3) && wholeD c && (rowOf b).all wholeD
  | _ => false
def rowD (b : Bool) (ds : List D) : D := if b then .lst ds else .tup ds
theorem row_is {d : D} (h : isRowD d = true) : ∃ b xs, d = rowD b xs := by
  cases d with
  | lst xs => exact ⟨true, xs, rfl⟩
  | tup xs => exact ⟨false, xs, rfl⟩
  | _ => cases h
theorem row_seq (b : Bool) (ds : List D) : seqD (rowD b ds) = some ds := by cases b <;> rfl
theorem row_len (b : Bool) (ds : List D) : lenD (rowD b ds) = some (ds.length : Int) := by cases b <;> rfl
theorem row_of (b : Bool) (ds : List D) : rowOf (rowD b ds) = ds := by cases b <;> rfl
theorem row_isr (b : Bool) (ds : List D) : isRowD (rowD b ds) = true := by cases b <;> rfl
theorem row_ix {b : Bool} {ds : List D} {j : Nat} {d : D} (h : ds[j]? = some d) : ixD (rowD b ds) (j : Int) = some d := by
  cases b <;> exact ixD_nat h
theorem thg_row {b : Bool} {ds : List D} (h : thg (rowD b ds) = true) : thgAll ds = true := by cases b <;> exact h
theorem all_wh : ∀ {xs : List D}, xs.all wholeD = true → ∃ ks : List Int, xs = ks.map .int
  | [], _ => ⟨[], rfl⟩
  | x :: xs, h => by
    rw [List.all_cons, Bool.and_eq_true] at h
    obtain ⟨ks, e⟩ := all_wh h.2
    cases x with
    | int i => exact ⟨i :: ks, by rw [e]; rfl⟩
    | _ => cases h.1
theorem ent_is {d : D} (h : entB d = true) : ∃ (b c : Bool) (nm : Str) (ks : List Int) (v : Int), d = rowD b [.str nm, rowD c (ks.map .int), .int v] ∧ isName nm = true ∧ ks.length ≤ 3 := by
  unfold entB at h
  rw [Bool.and_eq_true] at h
  obtain ⟨h1, h2⟩ := h
  obtain ⟨b, xs, rfl⟩ := row_is h1
  rw [row_of] at h2
  match xs, h2 with
  | [a, k, v], h2 =>
    simp only [Bool.and_eq_true, decide_eq_true_eq] at h2
    obtain ⟨⟨⟨⟨q1, q2⟩, q3⟩, q4⟩, q5⟩ := h2
    obtain ⟨c, ys, rfl⟩ := row_is q2
    rw [row_of] at q3 q5
    obtain ⟨ks, rfl⟩ := all_wh q5
    cases a with
    | str nm =>
      cases v with
      | int v => exact ⟨b, c, nm, ks, v, rfl, q1, by rw [List.length_map] at q3; exact q3⟩
      | _ => cases q4
    | _ => cases q1
theorem ent_of (b c : Bool) (nm : Str) (ks : List Int) (v : Int) : entB (rowD b [.str nm, rowD c (ks.map .int), .int v]) = (isName nm && decide (ks.length ≤ 3)) := by
  unfold entB
  rw [row_isr, row_of, Bool.true_and]
  show (isName nm && isRowD (rowD c (ks.map .int)) && decide ((rowOf (rowD c (ks.map .int))).length ≤ 3) && true && (rowOf (rowD c (ks.map .int))).all wholeD) = _
  rw [row_isr, row_of, List.length_map, List.all_map]
  have : ks.all (wholeD ∘ D.int) = true := List.all_eq_true.mpr fun _ _ => rfl
  rw [this]
  simp
theorem ent_len {b : Bool} {xs : List D} (h : xs.length ≠ 3) : entB (rowD b xs) = false := by
  unfold entB
  rw [row_of]
  match xs, h with
  | [], _ => exact Bool.and_false _
  | [x], _ => exact Bool.and_false _
  | [x, y], _ => exact Bool.and_false _
  | [x, y, z], h => exact absurd rfl h
  | x :: y :: z :: u :: l, _ => exact Bool.and_false _
theorem three_of {α : Type} {xs : List α} (h : xs.length = 3) : ∃ x y z, xs = [x, y, z] := by
  match xs, h with
  | [x, y, z], _ => exact ⟨x, y, z, rfl⟩
/-! is_whole -/
def spWholeT : L3.Spec := fun bag n ds Φ => ∃ d : D, ds = [d] ∧ thg d = true ∧ Φ n (.bl (wholeD d))
abbrev s_is_whole : Stmt := top 13
abbrev N_is_whole : List Str := ["thing"]
theorem sc_is_whole : FnScope N_is_whole ["thing"] (defScope s_is_whole) := ⟨rfl, rfl, rfl, by decide +kernel, rfl, by decide +kernel, by decide +kernel⟩

theorem ok_wholeT {f : Addr} {fd : FuncData} (F : Fun K "is_whole" "is_whole" s_is_whole f fd) (T : Txt mg) : FnOk P w K mg base CX0 1 f fd ["thing"] (spD K spWholeT) := by
  refine fn_D F sc_is_whole (fun bag n ds Φ h => ?_) (fun cdv A outer s H E O bag n ds Φ hr h => ?_)
  · obtain ⟨d, e, _⟩ := h
    rw [e]; rfl
  · obtain ⟨d, e, ht, kk⟩ := h
    subst e
    refine ⟨_, (pss_one (ps_ret (pe_and (pe_callB (x_isi K) (by rfl) T.b_isinstance (by decide +kernel) (pa_cons (pv 0) (pa_cons (pe_bltn (v := .ty "int") (by rfl) T.b_int (by decide +kernel) rfl) pa_nil))) (pe_one (pe_not (pe_callB (x_isi K) (by rfl) T.b_isinstance (by decide +kernel) (pa_cons (pv 0) (pa_cons (pe_bltn (v := .ty "bool") (by rfl) T.b_bool (by decide +kernel) rfl) pa_nil)))))))), ?_⟩
    show WS _ _ [.val d] n _
    walk_at "ws1"
    walk_at "go"
    refine we_ty ?_
    walk_at "go"
    have no : ∀ T : String, tyD d = some T → kitB T "int" = some false → wholeD d = false → Φ n (.bl false) := fun T _ _ h => h ▸ kk
    cases d with
    | int i =>
      refine rc_isi (T := "int") (b := true) rfl (by decide +kernel) ?_
      refine ⟨_, rfl, itT rfl ?_⟩
      walk_at "go"
      refine we_ty ?_
      walk_at "go"
      refine rc_isi (T := "int") (b := false) rfl (by decide +kernel) ?_
      exact ⟨_, rfl, kk⟩
    | bl b =>
      refine rc_isi (T := "bool") (b := true) rfl (by decide +kernel) ?_
      refine ⟨_, rfl, itT rfl ?_⟩
      walk_at "go"
      refine we_ty ?_
      walk_at "go"
      refine rc_isi (T := "bool") (b := true) rfl (by decide +kernel) ?_
      exact ⟨_, rfl, kk⟩
    | non => exact rc_isi (T := "NoneType") (b := false) rfl (by decide +kernel) ⟨_, rfl, itF rfl kk⟩
    | str z => exact rc_isi (T := "str") (b := false) rfl (by decide +kernel) ⟨_, rfl, itF rfl kk⟩
    | lst xs => exact rc_isi (T := "list") (b := false) rfl (by decide +kernel) ⟨_, rfl, itF rfl kk⟩
    | tup xs => exact rc_isi (T := "tuple") (b := false) rfl (by decide +kernel) ⟨_, rfl, itF rfl kk⟩
    | _ => cases ht
/-! is_name -/
def spNameT : L3.Spec := fun bag n ds Φ => ∃ d : D, ds = [d] ∧ thg d = true ∧ Φ n (.bl (nameD d))
theorem head_in {z : Str} (h : 1 ≤ z.cps.size) (h2 : z.cps.size ≤ 1000) : ixD (.str z) 0 = some (.str ⟨#[z.cps.toList.headD 0]⟩) := by
  have hlen : z.length = z.cps.size := rfl
  show (if z.length ≤ sizeLine then (atI z.cps.toList ((0 : Nat) : Int)).map _ else none) = _
  rw [if_pos (by rw [hlen, sizeLine_eq]; omega)]
  have hz0 : z.cps.toList[0]? = some (z.cps.toList.headD 0) := by
    cases hq : z.cps.toList with
    | nil => have : z.cps.toList.length = 0 := by rw [hq]; rfl
             rw [Array.length_toList] at this; omega
    | cons u l => rfl
  rw [atI_nat hz0]; rfl
theorem str_len {z : Str} (h2 : z.cps.size ≤ 1000) : lenD (.str z) = some ((z.cps.size : Nat) : Int) := by
  have hlen : z.length = z.cps.size := rfl
  show (if z.length ≤ sizeLine then _ else _) = _
  rw [if_pos (by rw [hlen, sizeLine_eq]; omega)]; rfl
abbrev s_is_name : Stmt := top 14
abbrev N_is_name : List Str := ["thing", "sign"]
theorem sc_is_name : FnScope N_is_name ["thing"] (defScope s_is_name) := ⟨rfl, rfl, rfl, by decide +kernel, rfl, by decide +kernel, by decide +kernel⟩

theorem ok_nameT {f : Addr} {fd : FuncData} {tL tS : Tok} (F : Fun K "is_name" "is_name" s_is_name f fd) (T2 : Txt2 mg tL tS) : FnOk P w K mg base CX0 1 f fd ["thing"] (spD K spNameT) := by
  refine fn_D F sc_is_name (fun bag n ds Φ h => ?_) (fun cdv A outer s H E O bag n ds Φ hr h => ?_)
  · obtain ⟨d, e, _⟩ := h
    rw [e]; rfl
  · obtain ⟨d, e, ht, kk⟩ := h
    subst e
    have T := T2.b
    refine ⟨_, (pss_cons (ps_if (PW.pt (pw_or (pt_not (pt_val (pe_callB (x_isi K) (by rfl) T.b_isinstance (by decide +kernel) (pa_cons (pv 0) (pa_cons (pe_bltn (v := .ty "str") (by rfl) T.b_str (by decide +kernel) rfl) pa_nil))))) (pw_or (pt_cmpR op_lt (pe_callB (x_len K) (by rfl) T.b_len (by decide +kernel) (pa_cons (pv 0) pa_nil)) pe_int (nomark _)) (pw_or1 (pt_cmpR op_gt (pe_callB (x_len K) (by rfl) T.b_len (by decide +kernel) (pa_cons (pv 0) pa_nil)) pe_int (nomark _)))))) (pss_one (ps_ret pe_bl)) pss_nil)
  (pss_one (ps_ret (pe_and (pe_cmpR L2.op_inS (pe_ix (x_ix K) (pv 0) pe_int (fun _ _ => rfl)) (pe_glob (v := (.str _)) (by rfl) T2.c_LETTERS ⟨_, rfl⟩) (by with_unfolding_all rfl)) (pe_one (pe_callB (x_all K) (by rfl) T.b_all (by decide +kernel) (pa_cons (pe_lc (own := [("sign", 1)]) (g := gName 1) (tt := tYes) rfl sc_is_name.nd (pi_str (pv 0)) (blkOk_by (own := [("sign", 1)]) (N := N_is_name) (sc := defScope s_is_name) (by decide +kernel)) (fun _ _ _ _ _ => (pg_name (i := 1) sc_is_name.nd rfl (Or.inl rfl))) (fun _ _ _ _ _ => pts_nil) (fun _ _ _ _ _ => (pe_cmpR L2.op_inS (pv 1) (pe_glob (v := (.str _)) (by rfl) T2.c_SIGNS ⟨_, rfl⟩) (by with_unfolding_all rfl)))) pa_nil))))))), ?_⟩
    show WS _ _ [.val d, .un] n _
    walk_at "ws1"
    walk_at "ws1"
    walk_at "go"
    refine we_ty ?_
    walk_at "go"
    cases d with
    | non =>
      refine rc_isi (T := "NoneType") (b := false) rfl (by decide +kernel) ⟨_, rfl, itT rfl (itT rfl ?_)⟩
      walk_at "ws1"
      walk_at "go"
      exact kk
    | bl b =>
      refine rc_isi (T := "bool") (b := false) rfl (by decide +kernel) ⟨_, rfl, itT rfl (itT rfl ?_)⟩
      walk_at "ws1"
      walk_at "go"
      exact kk
    | int i =>
      refine rc_isi (T := "int") (b := false) rfl (by decide +kernel) ⟨_, rfl, itT rfl (itT rfl ?_)⟩
      walk_at "ws1"
      walk_at "go"
      exact kk
    | lst xs =>
      refine rc_isi (T := "list") (b := false) rfl (by decide +kernel) ⟨_, rfl, itT rfl (itT rfl ?_)⟩
      walk_at "ws1"
      walk_at "go"
      exact kk
    | tup xs =>
      refine rc_isi (T := "tuple") (b := false) rfl (by decide +kernel) ⟨_, rfl, itT rfl (itT rfl ?_)⟩
      walk_at "ws1"
      walk_at "go"
      exact kk
    | str z =>
      have hz : z.cps.size ≤ 1000 := by
        have h' : (decide (z.cps.size ≤ 1000) && fit (.str z)) = true := ht
        rw [Bool.and_eq_true] at h'
        exact of_decide_eq_true h'.1
      refine rc_isi (T := "str") (b := true) rfl (by decide +kernel) ⟨_, rfl, itF rfl ?_⟩
      walk_at "go"
      refine rc_len (str_len hz) ?_
      walk_at "go"
      refine dec2 (fun h1 => ?_) (fun h1 => ?_)
      · refine itT rfl ?_
        walk_at "ws1"
        walk_at "go"
        have : nameD (.str z) = false := by
          show isName z = false
          unfold isName
          rw [decide_eq_false (by omega : ¬ 1 ≤ z.cps.size)]
          rfl
        rw [this] at kk
        exact kk
      walk_at "go"
      refine rc_len (str_len hz) ?_
      walk_at "go"
      refine dec2 (fun h2 => ?_) (fun h2 => ?_)
      · walk_at "ws1"
        walk_at "go"
        have : nameD (.str z) = false := by
          show isName z = false
          unfold isName
          rw [decide_eq_false (by omega : ¬ z.cps.size ≤ 8), Bool.and_false]
          rfl
        rw [this] at kk
        exact kk
      have hN : nameD (.str z) = (decide (z.cps.toList.headD 0 ∈ letters.cps.toList) && z.cps.toList.all fun u => decide (u ∈ signs36.cps.toList)) := by
        show isName z = _
        unfold isName
        rw [decide_eq_true (by omega : 1 ≤ z.cps.size), decide_eq_true (by omega : z.cps.size ≤ 8)]
        rfl
      walk_at "ws1"
      walk_at "ws1"
      walk_at "go"
      refine r2_ix (head_in (by omega) hz) ?_
      walk_at "go"
      refine r2_sign ?_
      refine ⟨_, rfl, dec2 (fun hL => ?_) (fun hL => ?_)⟩
      · refine we_cb (wa_cons (wf_we (wf_map inSigns (fun _ => true) ?_)))
        refine wi_str ?_
        walk_at "go"
        refine ⟨?_, fun d hd m => ?_, ?_⟩
        · unfold signsD; rw [List.length_map, Array.length_toList]; omega
        · obtain ⟨u, _, rfl⟩ := List.mem_map.mp hd
          walk_at "go"
          refine ⟨rfl, rfl, fun _ => ?_⟩
          walk_at "go"
          exact r2_sign ⟨rfl, rfl⟩
        rw [filt_all]
        refine wa_nil ?_
        have e1 : (signsD z).map inSigns = (z.cps.toList.map fun u => decide (u ∈ signs36.cps.toList)).map D.bl := by
          unfold signsD
          rw [List.map_map, List.map_map]; rfl
        rw [e1]
        refine rc_all ?_
        rw [hN, decide_eq_true hL, Bool.true_and] at kk
        rw [List.all_map]
        exact kk
      · rw [hN, decide_eq_false hL, Bool.false_and] at kk
        exact kk
    | _ => cases ht

/-! events of anything -/
structure Evx where
  nm : D
  en : D
  kd : D
  ns : List D
def evF (e : Evx) : List (Str × D) := [("name", e.nm), ("end", e.en), ("kind", e.kd), ("needs", .tup e.ns)]
abbrev evD (C : Addr) (e : Evx) : D := .obj C (evF e)
structure EvT (K : PySem.W.Frag) (C : Addr) : Prop where
  cl : Cls K C
  n1 : NoAttr K C "name"
  n2 : NoAttr K C "end"
  n3 : NoAttr K C "kind"
  n4 : NoAttr K C "needs"
structure Txt3 (K : PySem.W.Frag) (mg : Str → Option Value) (tE tN : Tok) (aK : Addr) : Prop where
  b : Txt mg
  c_MOST_ENDS : mg "MOST_ENDS" = some (.int 5 tE)
  c_MOST_NEEDS : mg "MOST_NEEDS" = some (.int 3 tN)
  c_KINDS : mg "KINDS" = some (.ref aK)
  kinds : ∀ H, Rp K H (.ref aK) (.tup [.str "query", .str "action"])
theorem inD_str (x : Str) : ∀ l : List Str, inD (.str x) (l.map .str) = decide (x ∈ l) := fun l => by
  unfold inD
  rw [List.any_map]
  by_cases h : x ∈ l
  · rw [decide_eq_true h]
    refine List.any_eq_true.mpr ⟨x, h, ?_⟩
    show (x == x) = true
    simp
  · rw [decide_eq_false h]
    refine List.any_eq_false.mpr fun y hy => ?_
    show ¬ (y == x) = true
    simp only [beq_iff_eq]
    exact fun q => h (q ▸ hy)
theorem fit_strs {l : List Str} (h : ∀ x ∈ l, fit (.str x) = true) : fit (.lst (l.map .str)) = true := (fit_list fun d hd => by
  obtain ⟨x, hx, rfl⟩ := List.mem_map.mp hd
  exact ⟨h x hx, Nat.zero_le _⟩).1
def spEvX : SpecI := fun bag n ds Φ => ∃ (b : Bool) (e : Evx), ds = [e.nm, e.en, e.kd, rowD b e.ns] ∧ Φ n (evF e)
abbrev s_Event___init : Stmt := inClass (top 15) 0
abbrev N_Event___init : List Str := ["self", "name", "end", "kind", "needs"]
theorem sc_Event___init : FnScope N_Event___init ["self", "name", "end", "kind", "needs"] (defScope s_Event___init) := ⟨rfl, rfl, rfl, by decide +kernel, rfl, by decide +kernel, by decide +kernel⟩

theorem ok_event {f C : Addr} {fd : FuncData} {dvs : List V} (F : FunD K "__init__" "Event.__init__" (defArgs s_Event___init) (defBody s_Event___init) (defScope s_Event___init) dvs [] f fd) (T : Txt mg) (TE : EvT K C) : FnOk P w K mg base CX0 1 f fd ["self", "name", "end", "kind", "needs"] (spI K C spEvX) := by
  refine fn_ID F sc_Event___init (fun bag n ds Φ h => ?_) (fun cdv A outer s H E O bag n ds Φ p dx hr h => ?_)
  · obtain ⟨b, e, he, _⟩ := h
    rw [he]; rfl
  · obtain ⟨b, e, he, kk⟩ := h
    subst he
    refine ⟨_, (pss_cons (x_sfld K (ps_fld (pv 0) (pv 1) rfl))
  (pss_cons (x_sfld K (ps_fld (pv 0) (pv 2) rfl))
  (pss_cons (x_sfld K (ps_fld (pv 0) (pv 3) rfl))
  (pss_one (x_sfld K (ps_fld (pv 0) (pe_callTy (x_tup K) (by rfl) T.b_tuple (by decide +kernel) (pa_cons (pv 4) pa_nil)) rfl)))))), ?_⟩
    show WN _ _ _ _ _ _ _ _ _ [.val (.adr p), .val e.nm, .val e.en, .val e.kd, .val (rowD b e.ns)] n [] _
    refine wn_seq TE.cl TE.n1 (by decide) rfl fun H0 => ?_
    walk_at "go"
    refine wn_seq TE.cl TE.n2 (by show 1 < 1000; decide) rfl fun H0 => ?_
    walk_at "go"
    refine wn_seq TE.cl TE.n3 (by show 2 < 1000; decide) rfl fun H0 => ?_
    walk_at "go"
    refine wn_st TE.cl TE.n4 (by show 3 < 1000; decide) rfl fun H0 => ?_
    walk_at "go"
    refine rc_tup (row_seq b _) ?_
    exact kk
/-! faults -/
def isDct : D → Bool
  | .dct _ => true
  | _ => false
def okEnd : D → Bool
  | .int i => decide (1 ≤ i) && decide (i ≤ 5)
  | _ => false
def strOf : D → Str
  | .str z => z
  | _ => ""
def kinds2 : List D := [.str "query", .str "action"]
def badAt (el : List Str) (ns : List D) (i : Nat) : Bool := match ns[i]? with
  | some x => isDct x || !inD x (el.map .str) || inD x (ns.take i)
  | none => false
def anyBad (el : List Str) (ns : List D) : Bool := (List.range ns.length).any (badAt el ns)
def faultOf (el : List Str) (e : Evx) : Option Str :=
  if nameD e.nm = false then some "name" else if inD e.nm (el.map .str) = true then some "twice" else if okEnd e.en = false then some "end" else if inD e.kd kinds2 = false then some "kind" else if 3 < e.ns.length ∨ anyBad el e.ns = true then some "needs" else none
def firstF : List Str → List Evx → Option (Str × D)
  | _, [] => none
  | el, e :: es => match faultOf el e with
    | some w => some (w, e.nm)
    | none => firstF (el ++ [strOf e.nm]) es
def faults (es : List Evx) : Option (Str × D) := if 12 < es.length then some ("many", .non) else firstF [] es
def optS : Option Str → D
  | some x => .str x
  | none => .non
/-- an event by its looks -/
structure Lk (e : Evx) : Prop where
  tn : thg e.nm = true
  fn : fit e.nm = true
  te : thg e.en = true
  fk : fit e.kd = true
  nd : ∀ x ∈ e.ns, (fit x = true ∧ (dpy x).depth ≤ 60) ∨ ∃ kvs, x = .dct kvs
theorem anyBad_no {el : List Str} {ns : List D} (h : ∀ j, j < ns.length → badAt el ns j = false) : anyBad el ns = false := by
  unfold anyBad
  refine List.any_eq_false.mpr fun j hj => ?_
  rw [h j (List.mem_range.mp hj)]; exact Bool.false_ne_true
theorem anyBad_yes {el : List Str} {ns : List D} {j : Nat} (hj : j < ns.length) (h : badAt el ns j = true) : anyBad el ns = true := List.any_eq_true.mpr ⟨j, List.mem_range.mpr hj, h⟩
def spFaultX (C : Addr) : L3.Spec := fun bag n ds Φ => ∃ (e : Evx) (el : List Str), ds = [evD C e, .lst (el.map .str)] ∧ Lk e ∧ el.length ≤ 20 ∧ (∀ x ∈ el, fit (.str x) = true) ∧ e.ns.length ≤ 1000 ∧ Φ n (optS (faultOf el e))
theorem fit_kinds : fit (.lst kinds2) = true := by decide +kernel
theorem bad_dct {el : List Str} {ns : List D} {j : Nat} {kvs : List (L2.Key × D)} (h : ns[j]? = some (.dct kvs)) : badAt el ns j = true := by
  unfold badAt; rw [h]; rfl
theorem okEnd_is {d : D} (h : wholeD d = true) : ∃ i, d = .int i := by
  cases d with
  | int i => exact ⟨i, rfl⟩
  | _ => cases h
theorem okEnd_no {d : D} (h : wholeD d = false) : okEnd d = false := by
  cases d with
  | int i => cases h
  | _ => rfl
abbrev s_event_fault : Stmt := top 16
abbrev N_event_fault : List Str := ["event", "elder", "place", "need"]
theorem sc_event_fault : FnScope N_event_fault ["event", "elder"] (defScope s_event_fault) := ⟨rfl, rfl, rfl, by decide +kernel, rfl, by decide +kernel, by decide +kernel⟩

theorem ok_faultX {f C aK : Addr} {fd : FuncData} {tE tN : Tok} (F : Fun K "event_fault" "event_fault" s_event_fault f fd) (T3 : Txt3 K mg tE tN aK) (TE : EvT K C) (D_is_name : Dn P w K mg base "is_name" 1 ["thing"] [] [] spNameT) (D_is_whole : Dn P w K mg base "is_whole" 1 ["thing"] [] [] spWholeT) : FnOk P w K mg base CX0 2 f fd ["event", "elder"] (spD K (spFaultX C)) := by
  refine fn_D F sc_event_fault (fun bag n ds Φ h => ?_) (fun cdv A outer s H E O bag n ds Φ hr h => ?_)
  · obtain ⟨e, l, he, _⟩ := h
    rw [he]; rfl
  · obtain ⟨e, el, he, we, hel, hfe, hn3, kk⟩ := h
    subst he
    have T := T3.b
    refine ⟨_, (pss_cons (ps_if (pt_not (pt_val (pe_call D_is_name.G (hr.mono (by decide)) (by rfl) D_is_name.m D_is_name.k D_is_name.b D_is_name.v pass0 (pa_cons (x_fld K (pe_fld (pv 0) rfl)) pa_nil)))) (pss_one (ps_ret pe_str)) pss_nil)
  (pss_cons (ps_if (pt_cmpR (x_in K (by exact hu65 hr)) (x_fld K (pe_fld (pv 0) rfl)) (pv 1) (by with_unfolding_all rfl)) (pss_one (ps_ret pe_str)) pss_nil)
  (pss_cons (ps_if (PW.pt (pw_or (pt_not (pt_val (pe_call D_is_whole.G (hr.mono (by decide)) (by rfl) D_is_whole.m D_is_whole.k D_is_whole.b D_is_whole.v pass0 (pa_cons (x_fld K (pe_fld (pv 0) rfl)) pa_nil)))) (pw_or (pt_cmpR op_lt (x_fld K (pe_fld (pv 0) rfl)) pe_int (nomark _)) (pw_or1 (pt_cmpR op_gt (x_fld K (pe_fld (pv 0) rfl)) (pe_glob (v := (.int _)) (by rfl) T3.c_MOST_ENDS ⟨_, rfl⟩) (nomark _)))))) (pss_one (ps_ret pe_str)) pss_nil)
  (pss_cons (ps_if (pt_cmpR (x_notIn K (by exact hu65 hr)) (x_fld K (pe_fld (pv 0) rfl)) (pe_glob (v := (.ref _)) (by rfl) T3.c_KINDS rfl) (by with_unfolding_all rfl)) (pss_one (ps_ret pe_str)) pss_nil)
  (pss_cons (ps_if (pt_cmpR op_gt (pe_callB (x_len K) (by rfl) T.b_len (by decide +kernel) (pa_cons (x_fld K (pe_fld (pv 0) rfl)) pa_nil)) (pe_glob (v := (.int _)) (by rfl) T3.c_MOST_NEEDS ⟨_, rfl⟩) (nomark _)) (pss_one (ps_ret pe_str)) pss_nil)
  (pss_cons (ps_for PassesOwn.never rfl (x_enumT K (by rfl) T.b_enumerate (pa_cons (x_fld K (pe_fld (pv 0) rfl)) pa_nil)) (x_tgt K (pg_tup (by rfl) (pgs_cons (pg_name (i := 2) sc_event_fault.nd rfl (Or.inl rfl)) (pgs_cons (pg_name (i := 3) sc_event_fault.nd rfl (Or.inl rfl)) pgs_nil)))) (pss_one (ps_if (PW.pt (pw_or (pt_cmpR (x_notInX K (by exact hu65 hr)) (pv 3) (pv 1) (by with_unfolding_all rfl)) (pw_or1 (pt_cmpR (x_in K (by exact hu65 hr)) (pv 3) (pe_slice (x_sl K) (x_fld K (pe_fld (pv 0) rfl)) po_none (po_some (pv 2))) (by with_unfolding_all rfl))))) (pss_one (ps_ret pe_str)) pss_nil)))
  (pss_one (ps_ret pe_non)))))))), ?_⟩
    show WS _ _ [.val (evD C e), .val (.lst (el.map .str)), .un, .un] n _
    have f1 : nameD e.nm = false → faultOf el e = some "name" := fun q => if_pos q
    walk_at "ws1"
    walk_at "ws1"
    walk_at "go"
    refine we_fld TE.cl TE.n1 ?_
    walk_at "go"
    refine ⟨we.tn, ?_⟩
    refine ⟨_, rfl, ?_⟩
    cases g1 : nameD e.nm with
    | false =>
      refine itT rfl ?_
      walk_at "ws1"
      walk_at "go"
      rw [f1 g1] at kk
      exact kk
    | true =>
    have g1' : ¬ nameD e.nm = false := by rw [g1]; exact Bool.noConfusion
    refine itF rfl ?_
    walk_at "ws1"
    walk_at "ws1"
    walk_at "ws1"
    walk_at "go"
    refine we_fld TE.cl TE.n1 ?_
    walk_at "go"
    refine r2_in rfl we.fn (fit_strs hfe) ?_
    refine ⟨_, rfl, boo2 (fun h1 => ?_) (fun h1 => ?_)⟩
    · walk_at "ws1"
      walk_at "go"
      have : faultOf el e = some "twice" := (if_neg g1').trans (if_pos h1)
      rw [this] at kk
      exact kk
    have h1' : ¬ inD e.nm (el.map .str) = true := by rw [h1]; exact Bool.false_ne_true
    have f2 : okEnd e.en = false → faultOf el e = some "end" := fun q => (if_neg g1').trans ((if_neg h1').trans (if_pos q))
    walk_at "ws1"
    walk_at "ws1"
    walk_at "ws1"
    walk_at "go"
    refine we_fld TE.cl TE.n2 ?_
    walk_at "go"
    refine ⟨we.te, ?_⟩
    refine ⟨_, rfl, ?_⟩
    cases hwh : wholeD e.en with
    | false =>
      refine itT rfl (itT rfl ?_)
      walk_at "ws1"
      walk_at "go"
      rw [f2 (okEnd_no hwh)] at kk
      exact kk
    | true =>
    obtain ⟨i, hi⟩ := okEnd_is hwh
    refine itF rfl ?_
    walk_at "go"
    refine we_fld TE.cl TE.n2 ?_
    walk_at "we1"
    refine ⟨_, rfl, _, rfl, ?_⟩
    rw [hi]
    rw [hi] at f2
    walk_at "go"
    refine dec2 (fun h2 => ?_) (fun h2 => ?_)
    · refine itT rfl ?_
      walk_at "ws1"
      walk_at "go"
      rw [f2 (by show (decide (1 ≤ i) && _) = false; rw [decide_eq_false (by omega)]; rfl)] at kk
      exact kk
    walk_at "go"
    refine we_fld TE.cl TE.n2 ?_
    walk_at "we1"
    refine ⟨_, rfl, _, rfl, ?_⟩
    rw [hi]
    walk_at "go"
    refine dec2 (fun h3 => ?_) (fun h3 => ?_)
    · walk_at "ws1"
      walk_at "go"
      rw [f2 (by show (_ && decide (i ≤ 5)) = false; rw [decide_eq_false (by omega : ¬ i ≤ 5), Bool.and_false])] at kk
      exact kk
    have he : ¬ okEnd e.en = false := by
      rw [hi]
      show ¬ (decide (1 ≤ i) && decide (i ≤ 5)) = false
      rw [decide_eq_true (by omega), decide_eq_true (by omega)]; decide
    walk_at "ws1"
    walk_at "ws1"
    walk_at "ws1"
    walk_at "go"
    refine we_fld TE.cl TE.n3 ?_
    walk_at "go"
    refine we_const T3.kinds ?_
    refine r2_notIn (ds := kinds2) rfl we.fk fit_kinds ?_
    refine ⟨_, rfl, booN (fun h4 => ?_) (fun h4 => ?_)⟩
    · walk_at "ws1"
      walk_at "go"
      have : faultOf el e = some "kind" := (if_neg g1').trans ((if_neg h1').trans ((if_neg he).trans (if_pos h4)))
      rw [this] at kk
      exact kk
    have h4' : ¬ inD e.kd kinds2 = false := by rw [h4]; exact Bool.noConfusion
    have f5 : 3 < e.ns.length ∨ anyBad el e.ns = true → faultOf el e = some "needs" := fun q => (if_neg g1').trans ((if_neg h1').trans ((if_neg he).trans ((if_neg h4').trans (if_pos q))))
    walk_at "ws1"
    walk_at "ws1"
    walk_at "ws1"
    walk_at "go"
    refine we_fld TE.cl TE.n4 ?_
    walk_at "go"
    refine dec2 (fun h2 => ?_) (fun h2 => ?_)
    · walk_at "ws1"
      walk_at "go"
      rw [f5 (.inl (by omega))] at kk
      exact kk
    walk_at "ws1"
    walk_at "ws1"
    refine ws_for ?_
    refine wi_enumT ?_
    walk_at "go"
    refine we_fld TE.cl TE.n4 ?_
    walk_at "we1"
    refine ⟨_, rfl, _, rfl, ?_⟩
    walk_at "we1"
    refine ⟨_, rfl, fun i m ρ => m = n ∧ (∀ j, j < i → badAt el e.ns j = false) ∧ ∃ x2 x3, ρ = [.val (evD C e), .val (.lst (el.map .str)), x2, x3], ⟨rfl, (fun j hj => absurd hj (Nat.not_lt_zero j)), _, _, rfl⟩, ?_, ?_⟩
    · rintro i m ρ1 d hd ⟨rfl, hno, x2, x3, rfl⟩
      obtain ⟨x, hx, rfl⟩ := enumD_get hd
      have hi : i < e.ns.length := (List.getElem?_eq_some_iff.mp hx).1
      have hil : i ≤ e.ns.length := by omega
      have hz : (0 : Int) + (i : Nat) = (i : Nat) := by omega
      rw [hz]
      have bad : badAt el e.ns i = true → faultOf el e = some "needs" := fun q => f5 (.inr (anyBad_yes hi q))
      have ftk : fit (.lst (e.ns.take i)) = true := (fit_list fun d hd => by
        obtain ⟨j, hj⟩ := List.mem_iff_getElem?.mp hd
        have hji : j < i := by
          rcases Nat.lt_or_ge j i with z | z
          · exact z
          · rw [List.getElem?_eq_none (by rw [List.length_take]; omega)] at hj; cases hj
        rw [List.getElem?_take, if_pos hji] at hj
        rcases we.nd d (List.mem_of_getElem? hj) with z | ⟨kvs, z⟩
        · exact z
        · have := hno j hji
          rw [z] at hj
          rw [bad_dct hj] at this
          cases this).1
      walk_at "go"
      walk_at "ws1"
      walk_at "go"
      rcases we.nd x (List.mem_of_getElem? hx) with ⟨fx, _⟩ | ⟨kvs, rfl⟩
      case inr =>
        refine r2_noDct ?_
        refine ⟨_, rfl, itT rfl (itT rfl ?_)⟩
        walk_at "ws1"
        walk_at "go"
        rw [bad (bad_dct hx)] at kk
        exact kk
      have hb : badAt el e.ns i = (isDct x || !inD x (el.map .str) || inD x (e.ns.take i)) := by unfold badAt; rw [hx]
      have nd : isDct x = false := by
        cases x with
        | dct kvs => cases fx
        | _ => rfl
      rw [nd, Bool.false_or] at hb
      refine r2_notInX rfl fx (fit_strs hfe) ?_
      refine ⟨_, rfl, booN (fun h3 => ?_) (fun h3 => ?_)⟩
      · refine itT rfl ?_
        walk_at "ws1"
        walk_at "go"
        rw [bad (by rw [hb, h3]; rfl)] at kk
        exact kk
      · walk_at "go"
        refine we_fld TE.cl TE.n4 ?_
        walk_at "go"
        rw [cut_to hil]
        refine r2_in rfl fx ftk ?_
        refine ⟨_, rfl, boo2 (fun h4 => ?_) (fun h4 => ?_)⟩
        · walk_at "ws1"
          walk_at "go"
          rw [bad (by rw [hb, h4, Bool.or_true])] at kk
          exact kk
        · walk_at "ws1"
          refine ⟨rfl, fun j hj => ?_, _, _, rfl⟩
          rcases Nat.lt_succ_iff_lt_or_eq.mp hj with q | q
          · exact hno j q
          · rw [q, hb, h3, h4]; rfl
    · rintro m ρ1 ⟨rfl, hno, x2, x3, rfl⟩
      rw [enumD_len] at hno
      walk_at "ws1"
      walk_at "go"
      have : faultOf el e = none := (if_neg g1').trans ((if_neg h1').trans ((if_neg he).trans ((if_neg h4').trans (if_neg fun q => q.elim (fun z => by omega) fun z => by rw [anyBad_no hno] at z; cases z))))
      rw [this] at kk
      exact kk

end
end Toy
namespace Toy
open PySem L2 L3
local macro_rules | `(tactic| walk_at "we1") => `(tactic| first
  | ((with_reducible refine' we_var ?hv ?_); (case hv => rfl))
  | (with_reducible refine we_int ?_)
  | (with_reducible refine we_str ?_)
  | (with_reducible refine we_bl ?_)
  | (with_reducible refine we_non ?_)
  | ((with_reducible refine' we_dix ?hv ?_); (case hv => rfl))
  | (with_reducible refine we_op ?_)
  | ((with_reducible refine' we_dget ?hv ?_); (case hv => rfl))
  | (with_reducible refine we_count ?_)
  | (with_reducible refine we_cb ?_)
  | (with_reducible refine we_call0 ?_)
  | (with_reducible refine we_tup ?_)
  | (with_reducible refine we_lst ?_)
  | (with_reducible refine we_if ?_)
  | (with_reducible refine we_not ?_)
  | (with_reducible refine we_and ?_)
  | (with_reducible refine we_or ?_)
  | (with_reducible refine we_isN ?_)
  | (with_reducible refine we_notN ?_)
  | (with_reducible refine we_sl ?_)
  | (with_reducible refine wa_cons ?_)
  | (with_reducible refine wa_nil ?_)
  | (with_reducible refine wt_test ?_)
  | (with_reducible refine wt_B ?_)
  | (with_reducible refine wt_and ?_)
  | (with_reducible refine wt_or ?_)
  | (with_reducible refine wt_not ?_)
  | (with_reducible refine wt_yes ?_)
  | (with_reducible refine wo_none ?_)
  | (with_reducible refine wo_some ?_)
  | ((with_reducible refine' r2_ix ?hx ?_); (case hx => rfl))
  | (with_reducible refine r2_isN ?_)
  | (with_reducible refine r2_notN ?_)
  | (with_reducible refine r2_lt ?_)
  | (with_reducible refine r2_le ?_)
  | (with_reducible refine r2_gt ?_)
  | (with_reducible refine r2_ge ?_)
  | (with_reducible refine r2_sub ?_)
  | (with_reducible refine r2_addI ?_)
  | (with_reducible refine r2_eqI ?_)
  | (with_reducible refine r2_neI ?_)
  | (with_reducible refine rc_int ?_)
  | (with_reducible refine rc_abs ?_)
  | ((with_reducible refine' rc_len ?hl ?_); (case hl => rfl))
  | (with_reducible refine wi_seq ?_)
  | (with_reducible refine wi_rng1 ?_)
  | (with_reducible refine wi_rng2 ?_)
  | (with_reducible refine wi_enum ?_)
  | (refine ⟨_, rfl, ?_⟩))
local macro_rules | `(tactic| walk_at "ws1") => `(tactic| first
  | (with_reducible refine ws_seq ?_)
  | (with_reducible refine ws_set ?_)
  | (with_reducible refine ws_ret ?_)
  | (with_reducible refine ws_if ?_)
  | (with_reducible refine ws_next ?_)
  | (with_reducible refine ws_asg ?_))
local macro_rules | `(tactic| walk_at "wg1") => `(tactic| first
  | (with_reducible refine wg_name (rw_name (by decide)) ?_)
  | (with_reducible refine wg_name (fun _ _ => trivial) ?_)
  | ((with_reducible refine' wg_tup ?hl ?_); (case hl => rfl))
  | (with_reducible refine wgs_cons rw_trans ?_)
  | (with_reducible refine wgs_nil rw_refl ?_)
  | (with_reducible refine wgs_cons (fun _ _ _ _ _ => trivial) ?_)
  | (with_reducible refine wgs_nil (fun _ => trivial) ?_))
local macro_rules | `(tactic| walk_at "go") => `(tactic| repeat' (first | walk_at "we1" | walk_at "wg1"))
section
variable {P : Program} {w : World} {K : PySem.W.Frag} {mg : Str → Option Value} {base : Heap}
/-! errors -/
abbrev s_BadOrder___init : Stmt := inClass (top 3) 0
abbrev N_BadOrder___init : List Str := ["self", "what", "name"]
theorem sc_BadOrder___init : FnScope N_BadOrder___init ["self", "what", "name"] (defScope s_BadOrder___init) := ⟨rfl, rfl, rfl, by decide +kernel, rfl, by decide +kernel, by decide +kernel⟩

theorem ok_xorder {f C C0 : Addr} {fd : FuncData} (F : Fun K "__init__" "BadOrder.__init__" s_BadOrder___init f fd) (A_AskedError : AskC K C0 ∧ mg "AskedError" = some (.ref C0)) (T : OexC K C) (n1 : PySem.W.findIn K (.ref C) "what" = some none) (n2 : PySem.W.findIn K (.ref C) "name" = some none) : FnOk P w K mg base CX0 1 f fd ["self", "what", "name"] (spXI C ["what", "name"]) := by
  refine F.ok sc_BadOrder___init (fun vs H Q E h => ?_) (fun cdv A outer s H vs Q E hr h => ?_)
  · obtain ⟨a, ws, rfl, hl, _⟩ := h
    simpa using hl
  · refine ⟨_, (pss_cons (ps_expr (pe_askinit (by rfl) A_AskedError.2 A_AskedError.1 (pa_cons (pv 0) (pa_cons pe_str pa_nil))))
  (pss_cons (ps_ost (pv 0) (pv 1))
  (pss_one (ps_ost (pv 0) (pv 2))))), ?_⟩
    exact xi2_go T n1 n2 h (fun _ _ h => h) _
abbrev s_BadText___init : Stmt := inClass (top 4) 0
abbrev N_BadText___init : List Str := ["self", "row"]
theorem sc_BadText___init : FnScope N_BadText___init ["self", "row"] (defScope s_BadText___init) := ⟨rfl, rfl, rfl, by decide +kernel, rfl, by decide +kernel, by decide +kernel⟩

theorem ok_xtext {f C C0 : Addr} {fd : FuncData} (F : Fun K "__init__" "BadText.__init__" s_BadText___init f fd) (A_AskedError : AskC K C0 ∧ mg "AskedError" = some (.ref C0)) (T : OexC K C) (n1 : PySem.W.findIn K (.ref C) "row" = some none) : FnOk P w K mg base CX0 1 f fd ["self", "row"] (spXI C ["row"]) := by
  refine F.ok sc_BadText___init (fun vs H Q E h => ?_) (fun cdv A outer s H vs Q E hr h => ?_)
  · obtain ⟨a, ws, rfl, hl, _⟩ := h
    simpa using hl
  · refine ⟨_, (pss_cons (ps_expr (pe_askinit (by rfl) A_AskedError.2 A_AskedError.1 (pa_cons (pv 0) (pa_cons pe_str pa_nil))))
  (pss_one (ps_ost (pv 0) (pv 1)))), ?_⟩
    exact xi1_go T n1 h (fun _ _ h => h) _
abbrev s_BadWorld___init : Stmt := inClass (top 5) 0
abbrev N_BadWorld___init : List Str := ["self", "what"]
theorem sc_BadWorld___init : FnScope N_BadWorld___init ["self", "what"] (defScope s_BadWorld___init) := ⟨rfl, rfl, rfl, by decide +kernel, rfl, by decide +kernel, by decide +kernel⟩

theorem ok_xworld {f C C0 : Addr} {fd : FuncData} (F : Fun K "__init__" "BadWorld.__init__" s_BadWorld___init f fd) (A_AskedError : AskC K C0 ∧ mg "AskedError" = some (.ref C0)) (T : OexC K C) (n1 : PySem.W.findIn K (.ref C) "what" = some none) : FnOk P w K mg base CX0 1 f fd ["self", "what"] (spXI C ["what"]) := by
  refine F.ok sc_BadWorld___init (fun vs H Q E h => ?_) (fun cdv A outer s H vs Q E hr h => ?_)
  · obtain ⟨a, ws, rfl, hl, _⟩ := h
    simpa using hl
  · refine ⟨_, (pss_cons (ps_expr (pe_askinit (by rfl) A_AskedError.2 A_AskedError.1 (pa_cons (pv 0) (pa_cons pe_str pa_nil))))
  (pss_one (ps_ost (pv 0) (pv 1)))), ?_⟩
    exact xi1_go T n1 h (fun _ _ h => h) _
structure OrT (K : PySem.W.Frag) (C : Addr) : Prop where
  cl : Cls K C
  n1 : NoAttr K C "events"
structure Txt4 (mg : Str → Option Value) (tM : Tok) : Prop where
  b : Txt mg
  c_MOST_EVENTS : mg "MOST_EVENTS" = some (.int 12 tM)
def ordF (CE : Addr) (es : List Evx) : List (Str × D) := [("events", .tup (es.map (evD CE)))]
abbrev ordD (C CE : Addr) (es : List Evx) : D := .obj C (ordF CE es)
def xOrd (w : Str) (x : D) : List (Str × D) := [("name", x), ("what", .str w)]
/-! an order, or its first fault -/
def spOrderX (CB CE : Addr) : SpecIX := fun bag n ds Φ Ξ => ∃ (b : Bool) (es : List Evx), ds = [rowD b (es.map (evD CE))] ∧ es.length ≤ 14 ∧ (∀ e ∈ es, Lk e ∧ e.ns.length ≤ 1000) ∧ (faults es = none → Φ n (ordF CE es)) ∧ ∀ w x, faults es = some (w, x) → Ξ n CB (xOrd w x)
theorem firstF_no {el : List Str} {e : Evx} {es : List Evx} (h : faultOf el e = none) : firstF el (e :: es) = firstF (el ++ [strOf e.nm]) es := by
  show (match faultOf el e with | some w => some (w, e.nm) | none => firstF (el ++ [strOf e.nm]) es) = _
  rw [h]
theorem firstF_yes {el : List Str} {e : Evx} {es : List Evx} {x : Str} (h : faultOf el e = some x) : firstF el (e :: es) = some (x, e.nm) := by
  show (match faultOf el e with | some w => some (w, e.nm) | none => firstF (el ++ [strOf e.nm]) es) = _
  rw [h]
theorem drop_at {α : Type} {l : List α} {i : Nat} {x : α} (h : l[i]? = some x) : l.drop i = x :: l.drop (i + 1) := by
  obtain ⟨hi, e⟩ := List.getElem?_eq_some_iff.mp h
  rw [← e]
  exact List.drop_eq_getElem_cons hi
theorem fault_name {el : List Str} {e : Evx} (h : faultOf el e = none) : ∃ z, e.nm = .str z := by
  unfold faultOf at h
  split at h
  · cases h
  · rename_i q
    cases e' : e.nm with
    | str z => exact ⟨z, rfl⟩
    | _ => rw [e'] at q; exact absurd rfl q
def nmsOf (es : List Evx) : List Str := es.map fun e => strOf e.nm
abbrev s_Order___init : Stmt := inClass (top 17) 0
abbrev N_Order___init : List Str := ["self", "events", "elder", "event", "fault"]
theorem sc_Order___init : FnScope N_Order___init ["self", "events"] (defScope s_Order___init) := ⟨rfl, rfl, rfl, by decide +kernel, rfl, by decide +kernel, by decide +kernel⟩

theorem ok_orderX {f C CE : Addr} {fd : FuncData} {tM : Tok} (F : Fun K "__init__" "Order.__init__" s_Order___init f fd) (T4 : Txt4 mg tM) (TO : OrT K C) (TE : EvT K CE) (X_BadOrder : Xn P w K mg base "BadOrder" ["what", "name"]) (D_event_fault : Dn P w K mg base "event_fault" 2 ["event", "elder"] [] [] (spFaultX CE)) : FnOk P w K mg base (L2.CX P w) 3 f fd ["self", "events"] (spIX K C (spOrderX X_BadOrder.C CE)) := by
  refine fn_IX F sc_Order___init (fun bag n ds Φ Ξ h => ?_) (fun cdv A outer s H E hr => ?_)
  · obtain ⟨b, es, he, _⟩ := h
    rw [he]; rfl
  · have T := T4.b
    refine ⟨_, (pss_cons (ps_set (i := 1) sc_Order___init.nd rfl (Or.inl rfl) (pe_callTy (x_tup K) (by rfl) T.b_tuple (by decide +kernel) (pa_cons (pv 1) pa_nil)))
  (pss_cons (ps_if (pt_cmpR op_gt (pe_callB (x_len K) (by rfl) T.b_len (by decide +kernel) (pa_cons (pv 1) pa_nil)) (pe_glob (v := (.int _)) (by rfl) T4.c_MOST_EVENTS ⟨_, rfl⟩) (nomark _)) (pss_one (ps_raise rfl (takes_of rfl rfl rfl rfl) (pmk_oex X_BadOrder.T X_BadOrder.iC X_BadOrder.tI X_BadOrder.G (hr.mono (by decide)) X_BadOrder.b .nil pass0 (by rfl) X_BadOrder.m (pa_cons pe_str (pa_cons pe_non pa_nil))))) pss_nil)
  (pss_cons (ps_set (i := 2) sc_Order___init.nd rfl (Or.inl rfl) (pe_lst pa_nil))
  (pss_cons (ps_for (passes_of rfl) rfl (x_seq K (pv 1)) (pg_name (i := 3) sc_Order___init.nd rfl (Or.inl rfl)) (pss_cons (ps_set (i := 4) sc_Order___init.nd rfl (Or.inl rfl) (pe_call D_event_fault.G (hr.mono (by decide)) (by rfl) D_event_fault.m D_event_fault.k D_event_fault.b D_event_fault.v pass0 (pa_cons (pv 3) (pa_cons (pv 2) pa_nil))))
  (pss_cons (ps_if (pt_cmpR op_notN1 (pv 4) pe_non (nomark _)) (pss_one (ps_raise rfl (takes_of rfl rfl rfl rfl) (pmk_oex X_BadOrder.T X_BadOrder.iC X_BadOrder.tI X_BadOrder.G (hr.mono (by decide)) X_BadOrder.b .nil pass0 (by rfl) X_BadOrder.m (pa_cons (pv 4) (pa_cons (x_fld K (pe_fld (pv 3) rfl)) pa_nil))))) pss_nil)
  (pss_one (ps_expr (pe_bm PySem.F.plainAttrs_list PySem.F.slot_list_append PySem.F.type_list_append mt_append (pv 2) (pa_cons (x_fld K (pe_fld (pv 3) rfl)) pa_nil)))))))
  (pss_one (x_sfld K (ps_fld (pv 0) (pv 1) rfl))))))), fun O bag n ds Φ Ξ p dx h hx => ?_⟩
    obtain ⟨b, es, he, h14, hw, k1, k2⟩ := h
    subst he
    show WNX _ _ _ _ _ _ _ _ _ _ [.val (.adr p), .val (rowD b (es.map (evD CE))), .un, .un, .un] n [] _
    refine wnx_assoc (wnx_assoc (wnx_assoc (wnx_preF fun H0 s00 => ?_)))
    have hx := hx H0 s00
    walk_at "ws1"
    walk_at "ws1"
    walk_at "ws1"
    walk_at "ws1"
    walk_at "go"
    refine rc_tup (row_seq b _) ?_
    walk_at "ws1"
    walk_at "go"
    refine dec2 (fun h1 => ?_) (fun h1 => ?_)
    · refine ws_raise hx ?_
      walk_at "go"
      refine ⟨rfl, by decide, k2 _ _ (if_pos (by rw [List.length_map] at h1; omega))⟩
    rw [List.length_map] at h1
    walk_at "ws1"
    have hfs : faults es = firstF [] es := if_neg (by omega)
    rw [hfs] at k1 k2
    refine ws_own (i := 2) (Nat.le_of_ble_eq_true rfl) (wf_lst (wa_nil ⟨Nat.zero_le _, ?_⟩))
    refine ws_for ?_
    walk_at "we1"
    walk_at "we1"
    refine ⟨_, rfl, fun i m ρ => m = n ∧ firstF [] es = firstF (nmsOf (es.take i)) (es.drop i) ∧ (∀ e ∈ es.take i, ∃ z, e.nm = .str z) ∧ ∃ x3 x4, ρ = [.val (.adr p), .val (.tup (es.map (evD CE))), .own ((nmsOf (es.take i)).map .str), x3, x4], ⟨rfl, rfl, (fun e he => nomatch he), _, _, rfl⟩, ?_, ?_⟩
    · rintro i m ρ1 d hd ⟨rfl, hF, hz, x3, x4, rfl⟩
      obtain ⟨e, hee, rfl, hm, tk⟩ := map_at hd
      obtain ⟨we, hns⟩ := hw e hm
      have hl : (nmsOf (es.take i)).length ≤ 12 := by unfold nmsOf; rw [List.length_map, List.length_take]; omega
      have hf : ∀ x ∈ nmsOf (es.take i), fit (.str x) = true := fun x hx => by
        obtain ⟨e', he', rfl⟩ := List.mem_map.mp hx
        obtain ⟨z, ez⟩ := hz e' he'
        have := (hw e' (List.mem_of_mem_take he')).1.fn
        rw [ez] at this ⊢
        exact this
      rw [drop_at hee] at hF
      walk_at "wg1"
      walk_at "ws1"
      refine ws_set (we_look 2 rfl ?_)
      walk_at "go"
      refine ⟨e, _, rfl, we, by omega, hf, hns, by cases faultOf (nmsOf (es.take i)) e <;> rfl, ?_⟩
      walk_at "ws1"
      walk_at "ws1"
      walk_at "go"
      cases hfa : faultOf (nmsOf (es.take i)) e with
      | some w0 =>
        rw [firstF_yes hfa] at hF
        refine itT rfl ?_
        refine ws_raise hx ?_
        walk_at "go"
        refine we_fld TE.cl TE.n1 ?_
        walk_at "go"
        exact ⟨rfl, by decide, k2 w0 e.nm hF⟩
      | none =>
      rw [firstF_no hfa] at hF
      obtain ⟨z, ez⟩ := fault_name hfa
      refine itF rfl ?_
      walk_at "ws1"
      refine ws_append (i := 2) (ds := (nmsOf (es.take i)).map .str) rfl ?_
      refine we_fld TE.cl TE.n1 ?_
      walk_at "go"
      refine ⟨by rw [List.length_map, sizeLine_eq]; omega, rfl, ?_, fun e' he' => ?_, .val (evD CE e), .val .non, ?_⟩
      · rw [hF, tk]; unfold nmsOf; rw [List.map_append]; rfl
      · rw [tk] at he'
        rcases List.mem_append.mp he' with q | q
        · exact hz e' q
        · rw [List.mem_singleton.mp q]; exact ⟨z, ez⟩
      · rw [tk]; unfold nmsOf; rw [List.map_append, List.map_append, ez]
        show _ = [_, _, SD.own (_ ++ [D.str (strOf e.nm)]), _, _]
        rw [ez]; rfl
    · rintro m ρ1 ⟨rfl, hF, hz, x3, x4, rfl⟩
      rw [List.length_map, List.drop_length] at hF
      refine wnx_of ?_
      refine wn_st TO.cl TO.n1 (by decide) rfl fun H0 => ?_
      walk_at "go"
      exact k1 hF
/-! own == -/
structure Fx (e : Evx) : Prop where
  f1 : fit e.nm = true
  f2 : fit e.en = true
  f3 : fit e.kd = true
  f4 : fit (.tup e.ns) = true
def eqEv (e g : Evx) : Bool := eqD e.nm g.nm && eqD e.en g.en && (eqD e.kd g.kd && eqD (.tup e.ns) (.tup g.ns))
theorem eqEv_self {e : Evx} (h : Fx e) : eqEv e e = true := by
  unfold eqEv
  rw [L3.eq_self h.f1, L3.eq_self h.f2, L3.eq_self h.f3, L3.eq_self h.f4]; rfl
def spEqE (C : Addr) : L3.Spec := fun bag n ds Φ => ∃ e g : Evx, ds = [evD C e, evD C g] ∧ Fx e ∧ Fx g ∧ Φ n (.bl (eqEv e g))
abbrev s_Event___eq : Stmt := inClass (top 15) 1
abbrev N_Event___eq : List Str := ["self", "other"]
theorem sc_Event___eq : FnScope N_Event___eq ["self", "other"] (defScope s_Event___eq) := ⟨rfl, rfl, rfl, by decide +kernel, rfl, by decide +kernel, by decide +kernel⟩

theorem ok_eqE {f C_Event : Addr} {fd : FuncData} (F : Fun K "__eq__" "Event.__eq__" s_Event___eq f fd) (T : Txt mg) (TE : EvT K C_Event) (TI : IsaT K C_Event) (gC_Event : mg "Event" = some (.ref C_Event)) : FnOk P w K mg base CX0 1 f fd ["self", "other"] (spD K (spEqE C_Event)) := by
  refine fn_D F sc_Event___eq (fun bag n ds Φ h => ?_) (fun cdv A outer s H Ex O bag n ds Φ hr h => ?_)
  · obtain ⟨e, g, he, _⟩ := h
    rw [he]; rfl
  · obtain ⟨e, g, he, we, wg, kk⟩ := h
    subst he
    refine ⟨_, (pss_cons (ps_if (pt_not (pt_val (pe_callB (x_isi K) (by rfl) T.b_isinstance (by decide +kernel) (pa_cons (pv 1) (pa_cons (pe_glob (v := .ref C_Event) (by rfl) gC_Event rfl) pa_nil))))) (pss_one L3.ps_never) pss_nil)
  (pss_cons (ps_if (PW.pt (pw_or (pt_cmpR (x_ne K (by exact hr.units)) (x_fld K (pe_fld (pv 0) rfl)) (x_fld K (pe_fld (pv 1) rfl)) (nomark _)) (pw_or1 (pt_cmpR (x_ne K (by exact hr.units)) (x_fld K (pe_fld (pv 0) rfl)) (x_fld K (pe_fld (pv 1) rfl)) (nomark _))))) (pss_one (ps_ret pe_bl)) pss_nil)
  (pss_one (ps_ret (pe_and (pe_cmpR (x_eq K (by exact hr.units)) (x_fld K (pe_fld (pv 0) rfl)) (x_fld K (pe_fld (pv 1) rfl)) (nomark _)) (pe_one (pe_cmpR (x_eq K (by exact hr.units)) (x_fld K (pe_fld (pv 0) rfl)) (x_fld K (pe_fld (pv 1) rfl)) (nomark _)))))))), ?_⟩
    show WS _ _ [.val (evD C_Event e), .val (evD C_Event g)] n _
    walk_at "ws1"
    refine ws_if ?_
    walk_at "go"
    refine we_const (fun H => .adr _) ?_
    walk_at "go"
    refine rc_isiO TE.cl TI ?_
    refine ⟨_, rfl, itF rfl ?_⟩
    walk_at "ws1"
    walk_at "ws1"
    refine ws_if ?_
    walk_at "go"
    refine we_fld TE.cl TE.n1 ?_
    walk_at "go"
    refine we_fld TE.cl TE.n1 ?_
    walk_at "go"
    refine r2_neD we.f1 wg.f1 ?_
    refine ⟨_, rfl, booN (fun h1 => ?_) (fun h1 => ?_)⟩
    · refine itT rfl ?_
      walk_at "ws1"
      walk_at "go"
      unfold eqEv at kk
      rw [h1] at kk
      exact kk
    walk_at "go"
    refine we_fld TE.cl TE.n2 ?_
    walk_at "go"
    refine we_fld TE.cl TE.n2 ?_
    walk_at "go"
    refine r2_neD we.f2 wg.f2 ?_
    refine ⟨_, rfl, booN (fun h2 => ?_) (fun h2 => ?_)⟩
    · walk_at "ws1"
      walk_at "go"
      unfold eqEv at kk
      rw [h2, Bool.and_false, Bool.false_and] at kk
      exact kk
    walk_at "ws1"
    walk_at "ws1"
    refine we_and (we_op (we_fld TE.cl TE.n3 ?_))
    walk_at "we1"
    refine ⟨_, rfl, _, rfl, ?_⟩
    refine we_fld TE.cl TE.n3 ?_
    walk_at "we1"
    refine ⟨_, rfl, _, rfl, ?_⟩
    unfold eqEv at kk
    rw [h1, h2, Bool.true_and, Bool.true_and] at kk
    refine r2_eqD we.f3 wg.f3 ?_
    refine ⟨_, rfl, boo2 (fun h3 => ?_) (fun h3 => ?_)⟩
    · refine we_op (we_fld TE.cl TE.n4 ?_)
      walk_at "we1"
      refine ⟨_, rfl, _, rfl, ?_⟩
      refine we_fld TE.cl TE.n4 ?_
      walk_at "we1"
      refine ⟨_, rfl, _, rfl, ?_⟩
      refine r2_eqD we.f4 wg.f4 ?_
      rw [h3, Bool.true_and] at kk
      exact kk
    · rw [h3] at kk
      exact kk
def goodE (ks : List (Str × D)) : Prop := ∃ e : Evx, ks = evF e ∧ Fx e
theorem hS_E {C : Addr} : ∀ ks, goodE ks → spEqE C none 0 [.obj C ks, .obj C ks] fun _ r => r = .bl true := fun ks h => by
  obtain ⟨e, rfl, we⟩ := h
  exact ⟨e, e, rfl, we, we, by rw [eqEv_self we]⟩
def spEqO (CO CE : Addr) : L3.Spec := fun bag n ds Φ => ∃ es gs : List Evx, ds = [ordD CO CE es, ordD CO CE gs] ∧ (∀ e ∈ es, Fx e) ∧ (∀ (i : Nat) e g, es[i]? = some e → gs[i]? = some g → e = g) ∧ Φ n (.bl (es.length == gs.length))
abbrev s_Order___eq : Stmt := inClass (top 17) 3
abbrev N_Order___eq : List Str := ["self", "other"]
theorem sc_Order___eq : FnScope N_Order___eq ["self", "other"] (defScope s_Order___eq) := ⟨rfl, rfl, rfl, by decide +kernel, rfl, by decide +kernel, by decide +kernel⟩

theorem ok_eqO {f C_Order C_Event : Addr} {fd : FuncData} (F : Fun K "__eq__" "Order.__eq__" s_Order___eq f fd) (T : Txt mg) (TO : OrT K C_Order) (TI : IsaT K C_Order) (gC_Order : mg "Order" = some (.ref C_Order)) (O_Event : On P w K mg base C_Event 1 ["self", "other"] (spEqE C_Event)) : FnOk P w K mg base CX0 3 f fd ["self", "other"] (spD K (spEqO C_Order C_Event)) := by
  refine fn_D F sc_Order___eq (fun bag n ds Φ h => ?_) (fun cdv A outer s H Ex O bag n ds Φ hr h => ?_)
  · obtain ⟨es, gs, he, _⟩ := h
    rw [he]; rfl
  · obtain ⟨es, gs, he, we, hp, kk⟩ := h
    subst he
    have hS_Event := hS_E (C := C_Event)
    refine ⟨_, (pss_cons (ps_if (pt_not (pt_val (pe_callB (x_isi K) (by rfl) T.b_isinstance (by decide +kernel) (pa_cons (pv 1) (pa_cons (pe_glob (v := .ref C_Order) (by rfl) gC_Order rfl) pa_nil))))) (pss_one L3.ps_never) pss_nil)
  (pss_one (ps_ret (pe_cmpR (x_ownTE K O_Event.G hS_Event O_Event.T (hr.mono (by decide)) O_Event.b pass0) (x_fld K (pe_fld (pv 0) rfl)) (x_fld K (pe_fld (pv 1) rfl)) (nomark _))))), ?_⟩
    show WS _ _ [.val (ordD C_Order C_Event es), .val (ordD C_Order C_Event gs)] n _
    walk_at "ws1"
    refine ws_if ?_
    walk_at "go"
    refine we_const (fun H => .adr _) ?_
    walk_at "go"
    refine rc_isiO TO.cl TI ?_
    refine ⟨_, rfl, itF rfl ?_⟩
    walk_at "ws1"
    walk_at "ws1"
    refine we_op (we_fld TO.cl TO.n1 ?_)
    walk_at "we1"
    refine ⟨_, rfl, _, rfl, ?_⟩
    refine we_fld TO.cl TO.n1 ?_
    walk_at "we1"
    refine ⟨_, rfl, _, rfl, ?_⟩
    refine r2_ownTU (fun i d e h1 h2 => ?_) (by rw [List.length_map, List.length_map]; exact kk)
    obtain ⟨x, hx, rfl, hm, _⟩ := map_at h1
    obtain ⟨y, hy, rfl, _⟩ := map_at h2
    have := hp i x y hx hy
    subst this
    exact ⟨_, rfl, rfl, x, rfl, we x hm⟩
/-! own iteration, own len -/
abbrev s_Order___iter : Stmt := inClass (top 17) 1
abbrev N_Order___iter : List Str := ["self"]
theorem sc_Order___iter : FnScope N_Order___iter ["self"] (defScope s_Order___iter) := ⟨rfl, rfl, rfl, by decide +kernel, rfl, by decide +kernel, by decide +kernel⟩

theorem ok_iterO {f C_Order : Addr} {fd : FuncData} (F : Fun K "__iter__" "Order.__iter__" s_Order___iter f fd) (b_iter : mg "iter" = none) (TO : OrT K C_Order) (b : Binds K fd ["self"] []) : ItRun P w K mg base C_Order "events" 1 f := by
  refine itRun_of F sc_Order___iter b fun cdv A outer s H E => ?_
  refine ⟨_, (pss_one (ps_ret (pe_callB x_iterT (by rfl) b_iter (by decide +kernel) (pa_cons (x_fld K (pe_fld (pv 0) rfl)) pa_nil)))), ?_⟩
  intro a dx tt fs xs Q ha hl ht q
  exact ⟨_, rfl, _, _, _, _, _, rfl, ha, TO.cl, TO.n1, hl, tt, xs, rfl, ht, q⟩
def spLenO (CO CE : Addr) : L3.Spec := fun bag n ds Φ => ∃ es : List Evx, ds = [ordD CO CE es] ∧ Φ n (.int es.length)
abbrev s_Order___len : Stmt := inClass (top 17) 2
abbrev N_Order___len : List Str := ["self"]
theorem sc_Order___len : FnScope N_Order___len ["self"] (defScope s_Order___len) := ⟨rfl, rfl, rfl, by decide +kernel, rfl, by decide +kernel, by decide +kernel⟩

theorem ok_lenO {f C_Order CE : Addr} {fd : FuncData} (F : Fun K "__len__" "Order.__len__" s_Order___len f fd) (T : Txt mg) (TO : OrT K C_Order) : FnOk P w K mg base CX0 1 f fd ["self"] (spD K (spLenO C_Order CE)) := by
  refine fn_D F sc_Order___len (fun bag n ds Φ h => ?_) (fun cdv A outer s H Ex O bag n ds Φ hr h => ?_)
  · obtain ⟨es, he, _⟩ := h
    rw [he]; rfl
  · obtain ⟨es, he, kk⟩ := h
    subst he
    refine ⟨_, (pss_one (ps_ret (pe_callB (x_len K) (by rfl) T.b_len (by decide +kernel) (pa_cons (x_fld K (pe_fld (pv 0) rfl)) pa_nil)))), ?_⟩
    show WS _ _ [.val (ordD C_Order CE es)] n _
    walk_at "ws1"
    walk_at "go"
    refine we_fld TO.cl TO.n1 ?_
    walk_at "we1"
    refine ⟨_, rfl, _, rfl, ?_⟩
    refine wa_nil (rc_len rfl ?_)
    rw [List.length_map]
    exact kk

end
end Toy
namespace L3
open PySem L2
section
variable {c : Ctx} {ρ : List SD} {n : Nat} {te : TE} {Φ : Nat → List D → Prop}
/-- list(x), one's own -/
theorem wf_list1 (h : WE c te ρ n fun n1 d => ∃ ds, seqD d = some ds ∧ Φ n1 ds) : WF c (tCB (rListD c.K) (tCons te tNil)) ρ n Φ := fun P L σ H Q E q => by
  refine h P L σ H _ E fun x d n1 H1 s1 j1 r1 ⟨ds, e, k⟩ => ?_
  have E1 := E.step s1 j1
  cases r1 with
  | @lst a ys _ hs ha =>
    cases e
    exact ⟨a, ys, rfl, .inl (.inl (same_rd same_hid hs)), fun l hl => q l ys _ n1 _ (s1.trans (E1.newT hl).1) (E.noneB s1 j1 hl) upd_same (by rw [hid_new_in hl]; exact ha) (E1.newT hl).2.1 k⟩
  | @tup a ys _ hs ha =>
    cases e
    exact ⟨a, ys, rfl, .inr (same_t same_hid hs), fun l hl => q l ys _ n1 _ (s1.trans (E1.newT hl).1) (E.noneB s1 j1 hl) upd_same (by rw [hid_new_in hl]; exact ha) (E1.newT hl).2.1 k⟩
  | _ => cases e
end
end L3
namespace Toy
open PySem L2 L3
local macro_rules | `(tactic| walk_at "we1") => `(tactic| first
  | ((with_reducible refine' we_var ?hv ?_); (case hv => rfl))
  | (with_reducible refine we_int ?_)
  | (with_reducible refine we_str ?_)
  | (with_reducible refine we_bl ?_)
  | (with_reducible refine we_non ?_)
  | ((with_reducible refine' we_dix ?hv ?_); (case hv => rfl))
  | (with_reducible refine we_op ?_)
  | ((with_reducible refine' we_dget ?hv ?_); (case hv => rfl))
  | (with_reducible refine we_count ?_)
  | (with_reducible refine we_cb ?_)
  | (with_reducible refine we_call0 ?_)
  | (with_reducible refine we_tup ?_)
  | (with_reducible refine we_lst ?_)
  | (with_reducible refine we_if ?_)
  | (with_reducible refine we_not ?_)
  | (with_reducible refine we_and ?_)
  | (with_reducible refine we_or ?_)
  | (with_reducible refine we_isN ?_)
  | (with_reducible refine we_notN ?_)
  | (with_reducible refine we_sl ?_)
  | (with_reducible refine wa_cons ?_)
  | (with_reducible refine wa_nil ?_)
  | (with_reducible refine wt_test ?_)
  | (with_reducible refine wt_B ?_)
  | (with_reducible refine wt_and ?_)
  | (with_reducible refine wt_or ?_)
  | (with_reducible refine wt_not ?_)
  | (with_reducible refine wt_yes ?_)
  | (with_reducible refine wo_none ?_)
  | (with_reducible refine wo_some ?_)
  | ((with_reducible refine' r2_ix ?hx ?_); (case hx => rfl))
  | (with_reducible refine r2_isN ?_)
  | (with_reducible refine r2_notN ?_)
  | (with_reducible refine r2_lt ?_)
  | (with_reducible refine r2_le ?_)
  | (with_reducible refine r2_gt ?_)
  | (with_reducible refine r2_ge ?_)
  | (with_reducible refine r2_sub ?_)
  | (with_reducible refine r2_addI ?_)
  | (with_reducible refine r2_eqI ?_)
  | (with_reducible refine r2_neI ?_)
  | (with_reducible refine rc_int ?_)
  | (with_reducible refine rc_abs ?_)
  | ((with_reducible refine' rc_len ?hl ?_); (case hl => rfl))
  | (with_reducible refine wi_seq ?_)
  | (with_reducible refine wi_rng1 ?_)
  | (with_reducible refine wi_rng2 ?_)
  | (with_reducible refine wi_enum ?_)
  | (refine ⟨_, rfl, ?_⟩))
local macro_rules | `(tactic| walk_at "ws1") => `(tactic| first
  | (with_reducible refine ws_seq ?_)
  | (with_reducible refine ws_set ?_)
  | (with_reducible refine ws_ret ?_)
  | (with_reducible refine ws_if ?_)
  | (with_reducible refine ws_next ?_)
  | (with_reducible refine ws_asg ?_))
local macro_rules | `(tactic| walk_at "wg1") => `(tactic| first
  | (with_reducible refine wg_name (rw_name (by decide)) ?_)
  | (with_reducible refine wg_name (fun _ _ => trivial) ?_)
  | ((with_reducible refine' wg_tup ?hl ?_); (case hl => rfl))
  | (with_reducible refine wgs_cons rw_trans ?_)
  | (with_reducible refine wgs_nil rw_refl ?_)
  | (with_reducible refine wgs_cons (fun _ _ _ _ _ => trivial) ?_)
  | (with_reducible refine wgs_nil (fun _ => trivial) ?_))
local macro_rules | `(tactic| walk_at "go") => `(tactic| repeat' (first | walk_at "we1" | walk_at "wg1"))
section
variable {P : Program} {w : World} {K : PySem.W.Frag} {mg : Str → Option Value} {base : Heap}
theorem erase_map {α β : Type} (f : α → β) : ∀ (l : List α) (k : Nat), (l.map f).eraseIdx k = (l.eraseIdx k).map f
  | [], _ => rfl
  | _ :: _, 0 => rfl
  | x :: l, k + 1 => by
    show f x :: (l.map f).eraseIdx k = f x :: (l.eraseIdx k).map f
    rw [erase_map f l k]
theorem erase_perm {α : Type} : ∀ {l : List α} {k : Nat} (h : k < l.length), (l[k] :: l.eraseIdx k).Perm l
  | [], k, h => absurd h (by simp)
  | x :: l, 0, _ => List.Perm.refl _
  | x :: l, k + 1, h => (List.Perm.swap x _ _).trans ((erase_perm (l := l) (k := k) (by simpa using h)).cons x)
theorem move_perm {α : Type} {M L N : List α} {k : Nat} (h : k < L.length) (p : (M ++ L).Perm N) : ((M ++ [L[k]]) ++ L.eraseIdx k).Perm N := by
  rw [List.append_assoc]
  exact ((erase_perm h).append_left M).trans p

/-! names by draws -/
def PL : List Str := ["m", "b2", "z", "a", "k0", "c", "zz9", "abcdefgh", "d", "w1", "e", "f", "g", "h", "n"]
theorem PL_nodup : PL.Nodup := by decide +kernel
def spNames : L3.Spec := fun bag n ds Φ => ∃ (b q : Addr) (many : Nat), bag = some (b, q) ∧ ds = [.adr b, .int (many : Int)] ∧ many ≤ 14 ∧ n + 100 < 2 ^ 60 ∧ ∀ (N : List Str) n', N.length = many → N.Nodup → (∀ x ∈ N, x ∈ PL) → n' ≤ n + 14 → Φ n' (.lst (N.map .str))
abbrev s_law_names : Stmt := top 21
abbrev N_law_names : List Str := ["bag", "many", "pool", "found", "turn"]
theorem sc_law_names : FnScope N_law_names ["bag", "many"] (defScope s_law_names) := ⟨rfl, rfl, rfl, by decide +kernel, rfl, by decide +kernel, by decide +kernel⟩

theorem ok_names {f : Addr} {fd : FuncData} (F : Fun K "_law_names" "_law_names" s_law_names f fd) (T : Txt mg) (D_law_draw : Dn P w K mg base "_law_draw" 1 ["bag", "limit"] [] [] spDraw) : FnOk P w K mg base CX0 2 f fd ["bag", "many"] (spD K spNames) := by
  refine fn_D F sc_law_names (fun bag n ds Φ h => ?_) (fun cdv A outer s H Ex O bag n ds Φ hr h => ?_)
  · obtain ⟨b, q, m, _, e, _⟩ := h
    rw [e]; rfl
  · obtain ⟨b, q, many, eb, e, hm8, hn, kk⟩ := h
    subst eb; subst e
    refine ⟨_, (pss_cons (ps_set (i := 2) sc_law_names.nd rfl (Or.inl rfl) (pe_lst (pa_cons pe_str (pa_cons pe_str (pa_cons pe_str (pa_cons pe_str (pa_cons pe_str (pa_cons pe_str (pa_cons pe_str (pa_cons pe_str (pa_cons pe_str (pa_cons pe_str (pa_cons pe_str (pa_cons pe_str (pa_cons pe_str (pa_cons pe_str (pa_cons pe_str pa_nil)))))))))))))))))
  (pss_cons (ps_set (i := 3) sc_law_names.nd rfl (Or.inl rfl) (pe_lst pa_nil))
  (pss_cons (ps_for PassesOwn.never rfl (pi_range1 (by rfl) T.b_range (pa_cons (pv 1) pa_nil)) (pg_name (i := 4) sc_law_names.nd rfl (Or.inl rfl)) (pss_one (ps_expr (pe_bm PySem.F.plainAttrs_list PySem.F.slot_list_append PySem.F.type_list_append mt_append (pv 3) (pa_cons (x_bm K (id := "list.pop") (pe_bm PySem.F.plainAttrs_list PySem.F.slot_list_pop PySem.F.type_list_pop mt_popAt (pv 2) (pa_cons (pe_call D_law_draw.G (hr.mono (by decide)) (by rfl) D_law_draw.m D_law_draw.k D_law_draw.b D_law_draw.v pass0 (pa_cons (pv 0) (pa_cons (pe_callB (x_len K) (by rfl) T.b_len (by decide +kernel) (pa_cons (pv 2) pa_nil)) pa_nil))) pa_nil))) pa_nil)))))
  (pss_one (ps_ret (pv 3)))))), ?_⟩
    show WS _ _ [.val (.adr b), .val (.int many), .un, .un, .un] n _
    walk_at "ws1"
    refine ws_own (i := 2) (Nat.le_of_ble_eq_true rfl) (wf_lst ?_)
    walk_at "go"
    refine ⟨Nat.le_of_ble_eq_true rfl, ?_⟩
    show WS _ _ [.val (.adr b), .val (.int many), .own (PL.map .str), .un, .un] n _
    walk_at "ws1"
    refine ws_own (i := 3) (Nat.le_of_ble_eq_true rfl) (wf_lst (wa_nil ⟨Nat.zero_le _, ?_⟩))
    walk_at "ws1"
    refine ws_for ?_
    walk_at "go"
    refine ⟨by omega, by omega, ?_⟩
    have hcn : ((many : Nat) : Int).toNat = many := by omega
    rw [hcn]
    refine ⟨fun i m ρ => m ≤ n + i ∧ ∃ (N R : List Str) (x4 : SD), N.length = i ∧ (N ++ R).Perm PL ∧ ρ = [.val (.adr b), .val (.int many), .own (R.map .str), .own (N.map .str), x4], ⟨Nat.le_refl _, [], PL, .un, rfl, List.Perm.refl _, rfl⟩, ?_, ?_⟩
    · rintro i m ρ1 d hd ⟨hm, N, R, x5, hN, hp, rfl⟩
      obtain ⟨hi, rfl⟩ := rangeD_get hd
      have hl := hp.length_eq
      have hPL : PL.length = 15 := rfl
      rw [List.length_append, hPL] at hl
      walk_at "wg1"
      refine ws_appendPop (i := 3) (j := 2) (ds := N.map .str) (es := R.map .str) rfl rfl (by decide) ?_
      refine we_look 2 rfl ?_
      walk_at "go"
      rw [List.length_map]
      refine ⟨b, q, _, rfl, rfl, by omega, by omega, by omega, fun r h0 h4 => ?_⟩
      obtain ⟨k, rfl⟩ : ∃ k : Nat, r = (k : Int) := ⟨r.toNat, by omega⟩
      have hk : k < R.length := by omega
      refine ⟨rfl, k, .str R[k], rfl, by rw [List.getElem?_map, List.getElem?_eq_getElem hk]; rfl, by omega, by rw [List.length_map, sizeLine_eq]; omega, ?_⟩
      have er : (R.map D.str).eraseIdx k = (R.eraseIdx k).map .str := erase_map _ _ _
      refine ⟨by omega, N ++ [R[k]], R.eraseIdx k, .val (.int (0 + (i : Int))), by rw [List.length_append]; show N.length + 1 = _; omega, move_perm hk hp, ?_⟩
      rw [List.map_append, ← er]; rfl
    · rintro m ρ1 ⟨hm, N, R, x5, hN, hp, rfl⟩
      rw [rangeD_len] at hm hN
      have nd := (hp.nodup_iff.mpr PL_nodup)
      refine ws_freeze 3 rfl ?_
      walk_at "ws1"
      walk_at "go"
      exact kk N m hN (List.nodup_append.mp nd).1 (fun x hx => hp.mem_iff.mp (List.mem_append_left _ hx)) (by omega)

/-! events by draws -/
def enB (d : D) : Bool := thg d && fit d && decide ((dpy d).depth ≤ 50)
def nmB (d : D) : Bool := enB d && !eqD d (.str "q")
structure Drw (m : Nat) (e : Evx) : Prop where
  nm : nmB e.nm = true
  en : enB e.en = true
  kd : enB e.kd = true
  ns : ∀ x ∈ e.ns, enB x = true
  le : e.ns.length ≤ 3 + m
theorem nmB_en {d : D} (h : nmB d = true) : enB d = true := (Bool.and_eq_true_iff.mp h).1
theorem enB_t {d : D} (h : enB d = true) : thg d = true := (Bool.and_eq_true_iff.mp (Bool.and_eq_true_iff.mp h).1).1
theorem enB_f {d : D} (h : enB d = true) : fit d = true := (Bool.and_eq_true_iff.mp (Bool.and_eq_true_iff.mp h).1).2
theorem enB_d {d : D} (h : enB d = true) : (dpy d).depth ≤ 50 := of_decide_eq_true (Bool.and_eq_true_iff.mp h).2
theorem Drw.up {m k : Nat} {e : Evx} (h : Drw m e) (q : m ≤ k) : Drw k e := ⟨h.nm, h.en, h.kd, h.ns, by have := h.le; omega⟩
theorem Drw.lk {m : Nat} {e : Evx} (h : Drw m e) : Lk e := ⟨enB_t (nmB_en h.nm), enB_f (nmB_en h.nm), enB_t h.en, enB_f h.kd, fun x hx => .inl ⟨enB_f (h.ns x hx), by have := enB_d (h.ns x hx); omega⟩⟩
theorem Drw.fns {m : Nat} {e : Evx} (h : Drw m e) : fit (.lst e.ns) = true ∧ fit (.tup e.ns) = true := fit_list fun d hd => ⟨enB_f (h.ns d hd), by have := enB_d (h.ns d hd); omega⟩
theorem Drw.fx {m : Nat} {e : Evx} (h : Drw m e) : Fx e := ⟨enB_f (nmB_en h.nm), enB_f h.en, enB_f h.kd, h.fns.2⟩
def rowL (e : Evx) : List D := [e.nm, e.en, e.kd, .lst e.ns]
def rowX (e : Evx) : D := .lst (rowL e)
theorem PL_nm {x : Str} (h : x ∈ PL) : nmB (.str x) = true := by
  have : PL.all (fun x => nmB (.str x)) = true := by decide +kernel
  exact List.all_eq_true.mp this x h
def spDrawn : SpecT := fun bag n ds Φ => ∃ (b q : Addr), bag = some (b, q) ∧ ds = [.adr b] ∧ n + 300 < 2 ^ 60 ∧ ∀ (es : List Evx) n', es.length ≤ 14 → (∀ e ∈ es, Drw 0 e) → n' ≤ n + 120 → Φ n' (es.map rowL)
theorem many_at {r : Int} (h0 : 0 ≤ r) (h1 : r < 11) : ∃ c : Nat, ixD (.lst [.int 0, .int 1, .int 2, .int 3, .int 4, .int 5, .int 6, .int 7, .int 12, .int 13, .int 14]) r = some (.int (c : Int)) ∧ c ≤ 14 := by
  obtain rfl | rfl | rfl | rfl | rfl | rfl | rfl | rfl | rfl | rfl | rfl : r = 0 ∨ r = 1 ∨ r = 2 ∨ r = 3 ∨ r = 4 ∨ r = 5 ∨ r = 6 ∨ r = 7 ∨ r = 8 ∨ r = 9 ∨ r = 10 := by omega
  · exact ⟨0, rfl, by decide⟩
  · exact ⟨1, rfl, by decide⟩
  · exact ⟨2, rfl, by decide⟩
  · exact ⟨3, rfl, by decide⟩
  · exact ⟨4, rfl, by decide⟩
  · exact ⟨5, rfl, by decide⟩
  · exact ⟨6, rfl, by decide⟩
  · exact ⟨7, rfl, by decide⟩
  · exact ⟨12, rfl, by decide⟩
  · exact ⟨13, rfl, by decide⟩
  · exact ⟨14, rfl, by decide⟩
abbrev s_law_drawn : Stmt := top 22
abbrev N_law_drawn : List Str := ["bag", "names", "events", "place", "left", "needs", "turn"]
theorem sc_law_drawn : FnScope N_law_drawn ["bag"] (defScope s_law_drawn) := ⟨rfl, rfl, rfl, by decide +kernel, rfl, by decide +kernel, by decide +kernel⟩

theorem ok_drawn {f : Addr} {fd : FuncData} (F : Fun K "_law_drawn" "_law_drawn" s_law_drawn f fd) (T : Txt mg) (D_law_draw : Dn P w K mg base "_law_draw" 1 ["bag", "limit"] [] [] spDraw) (D_law_names : Dn P w K mg base "_law_names" 2 ["bag", "many"] [] [] spNames) : FnOk P w K mg base CX0 3 f fd ["bag"] (spT P w K spDrawn) := by
  refine fn_T F sc_law_drawn (fun bag n ds Φ h => ?_) (fun cdv A outer s H Ex O bag n ds Φ hr h => ?_)
  · obtain ⟨b, q, _, e, _⟩ := h
    rw [e]; rfl
  · obtain ⟨b, q, eb, e, hn, kk⟩ := h
    subst eb; subst e
    refine ⟨_, (pss_cons (ps_set (i := 1) sc_law_drawn.nd rfl (Or.inl rfl) (pe_call D_law_names.G (hr.mono (by decide)) (by rfl) D_law_names.m D_law_names.k D_law_names.b D_law_names.v pass0 (pa_cons (pv 0) (pa_cons (pe_ix (x_ix K) (pe_lst (pa_cons pe_int (pa_cons pe_int (pa_cons pe_int (pa_cons pe_int (pa_cons pe_int (pa_cons pe_int (pa_cons pe_int (pa_cons pe_int (pa_cons pe_int (pa_cons pe_int (pa_cons pe_int pa_nil)))))))))))) (pe_call D_law_draw.G (hr.mono (by decide)) (by rfl) D_law_draw.m D_law_draw.k D_law_draw.b D_law_draw.v pass0 (pa_cons (pv 0) (pa_cons pe_int pa_nil))) (fun _ _ => rfl)) pa_nil))))
  (pss_cons (ps_set (i := 2) sc_law_drawn.nd rfl (Or.inl rfl) (pe_lst pa_nil))
  (pss_cons (ps_for PassesOwn.never rfl (pi_range1 (by rfl) T.b_range (pa_cons (pe_callB (x_len K) (by rfl) T.b_len (by decide +kernel) (pa_cons (pv 1) pa_nil)) pa_nil)) (pg_name (i := 3) sc_law_drawn.nd rfl (Or.inl rfl)) (pss_cons (ps_set (i := 4) sc_law_drawn.nd rfl (Or.inl rfl) (pe_callTy (x_list K) (by rfl) T.b_list (by decide +kernel) (pa_cons (pe_slice (x_sl K) (pv 1) po_none (po_some (pv 3))) pa_nil)))
  (pss_cons (ps_set (i := 5) sc_law_drawn.nd rfl (Or.inl rfl) (pe_lst pa_nil))
  (pss_cons (ps_for PassesOwn.never rfl (pi_range1 (by rfl) T.b_range (pa_cons (pe_call D_law_draw.G (hr.mono (by decide)) (by rfl) D_law_draw.m D_law_draw.k D_law_draw.b D_law_draw.v pass0 (pa_cons (pv 0) (pa_cons pe_int pa_nil))) pa_nil)) (pg_name (i := 6) sc_law_drawn.nd rfl (Or.inl rfl)) (pss_one (ps_if (pt_cmpR op_gt (pe_callB (x_len K) (by rfl) T.b_len (by decide +kernel) (pa_cons (pv 4) pa_nil)) pe_int (nomark _)) (pss_one (ps_expr (pe_bm PySem.F.plainAttrs_list PySem.F.slot_list_append PySem.F.type_list_append mt_append (pv 5) (pa_cons (x_bm K (id := "list.pop") (pe_bm PySem.F.plainAttrs_list PySem.F.slot_list_pop PySem.F.type_list_pop mt_popAt (pv 4) (pa_cons (pe_call D_law_draw.G (hr.mono (by decide)) (by rfl) D_law_draw.m D_law_draw.k D_law_draw.b D_law_draw.v pass0 (pa_cons (pv 0) (pa_cons (pe_callB (x_len K) (by rfl) T.b_len (by decide +kernel) (pa_cons (pv 4) pa_nil)) pa_nil))) pa_nil))) pa_nil)))) pss_nil)))
  (pss_one (ps_expr (pe_bm PySem.F.plainAttrs_list PySem.F.slot_list_append PySem.F.type_list_append mt_append (pv 2) (pa_cons (pe_lst (pa_cons (pe_ix (x_ix K) (pv 1) (pv 3) (fun _ _ => rfl)) (pa_cons (pe_op (x_add K) pe_int (pe_call D_law_draw.G (hr.mono (by decide)) (by rfl) D_law_draw.m D_law_draw.k D_law_draw.b D_law_draw.v pass0 (pa_cons (pv 0) (pa_cons pe_int pa_nil)))) (pa_cons (pe_ix (x_ix K) (pe_lst (pa_cons pe_str (pa_cons pe_str pa_nil))) (pe_call D_law_draw.G (hr.mono (by decide)) (by rfl) D_law_draw.m D_law_draw.k D_law_draw.b D_law_draw.v pass0 (pa_cons (pv 0) (pa_cons pe_int pa_nil))) (fun _ _ => rfl)) (pa_cons (pv 5) pa_nil))))) pa_nil))))))))
  (pss_one (ps_ret (pv 2)))))), ?_⟩
    show WST _ _ [.val (.adr b), .un, .un, .un, .un, .un, .un] n _
    refine wst_seq ?_
    walk_at "ws1"
    walk_at "go"
    refine ⟨Nat.le_of_ble_eq_true rfl, ?_⟩
    walk_at "go"
    refine ⟨b, q, 11, rfl, rfl, by decide, by decide, by omega, fun r h0 h4 => ?_⟩
    obtain ⟨c, hc, hc14⟩ := many_at h0 h4
    refine r2_ix hc ?_
    refine wa_nil ⟨b, q, c, rfl, rfl, hc14, by omega, fun N n0 hNl hNd hNm hn0 => ?_⟩
    refine wst_seq (ws_own (i := 2) (Nat.le_of_ble_eq_true rfl) (wf_lst (wa_nil ⟨Nat.zero_le _, ?_⟩)))
    refine wst_seq (ws_toLL 2 rfl fun l => ?_)
    refine ws_for ?_
    walk_at "go"
    rw [List.length_map]
    refine ⟨by omega, by omega, ?_⟩
    have hcn : ((N.length : Nat) : Int).toNat = N.length := by omega
    rw [hcn]
    refine ⟨fun i m ρ => m ≤ n0 + 6 * i ∧ ∃ (rs : List (Addr × List D)) (es : List Evx) (x3 x4 x5 x6 : SD), es.length = i ∧ rs.map (·.2) = es.map rowL ∧ (∀ e ∈ es, Drw 0 e) ∧ ρ = [.val (.adr b), .val (.lst (N.map .str)), .ot (LL l rs), x3, x4, x5, x6], ⟨Nat.le_refl _, [], [], .un, .un, .un, .un, rfl, rfl, (fun e he => nomatch he), rfl⟩, ?_, ?_⟩
    · rintro i m ρ1 d hd ⟨hm, rs, es, x3, x4, x5, x6, hes, hrs, hg, rfl⟩
      obtain ⟨hi, rfl⟩ := rangeD_get hd
      have e0 : (0 : Int) + (i : Int) = (i : Int) := by omega
      rw [e0]
      have hNi : N[i]? = some N[i] := List.getElem?_eq_getElem hi
      have htn : (N.take i).Nodup := hNd.sublist (List.take_sublist _ _)
      have hrl : rs.length = i := by
        have := congrArg List.length hrs
        rw [List.length_map, List.length_map] at this
        omega
      walk_at "wg1"
      walk_at "ws1"
      refine ws_own (i := 4) (Nat.le_of_ble_eq_true rfl) (wf_list1 ?_)
      walk_at "go"
      rw [cut_to (by rw [List.length_map]; omega), ← List.map_take]
      walk_at "ws1"
      refine ws_own (i := 5) (Nat.le_of_ble_eq_true rfl) (wf_lst (wa_nil ⟨Nat.zero_le _, ?_⟩))
      refine ws_cut2 (Nx := fun n1 ρ1 => n1 ≤ m + 4 ∧ ∃ (M : List Str) (x4 x6 : SD), M.length ≤ 3 ∧ (∀ x ∈ M, x ∈ N.take i) ∧ ρ1 = [.val (.adr b), .val (.lst (N.map .str)), .ot (LL l rs), .val (.int (i : Int)), x4, .own (M.map .str), x6]) ?_ ?_
      · refine ws_for ?_
        walk_at "go"
        refine ⟨b, q, 4, rfl, rfl, by decide, by decide, by omega, fun r h0 h4 => ?_⟩
        obtain ⟨c, rfl⟩ : ∃ c : Nat, r = (c : Int) := ⟨r.toNat, by omega⟩
        refine wa_nil ⟨_, rfl, by omega, by omega, ?_⟩
        have hcn : ((c : Nat) : Int).toNat = c := by omega
        rw [hcn]
        refine ⟨fun t m1 ρ => m1 ≤ m + 1 + t ∧ ∃ (L M : List Str) (x6 : SD), M.length ≤ t ∧ (M ++ L).Perm (N.take i) ∧ ρ = [.val (.adr b), .val (.lst (N.map .str)), .ot (LL l rs), .val (.int (i : Int)), .own (L.map .str), .own (M.map .str), x6], ⟨Nat.le_refl _, N.take i, [], x6, Nat.le_refl _, List.Perm.refl _, rfl⟩, ?_, ?_⟩
        · rintro t m1 ρ1 d hd ⟨hm1, L, M, x6, hM, hp, rfl⟩
          obtain ⟨ht, rfl⟩ := rangeD_get hd
          have hl := hp.length_eq
          rw [List.length_append, List.length_take] at hl
          walk_at "wg1"
          refine ws_if (wt_look 4 rfl ?_)
          walk_at "go"
          rw [List.length_map]
          refine dec2 (fun h1 => ?_) (fun h1 => ?_)
          · refine ws_appendPop (i := 5) (j := 4) (ds := M.map .str) (es := L.map .str) rfl rfl (by decide) ?_
            refine we_look 4 rfl ?_
            walk_at "go"
            rw [List.length_map]
            refine ⟨b, q, _, rfl, rfl, by omega, by omega, by omega, fun r h0 h4 => ?_⟩
            obtain ⟨k, rfl⟩ : ∃ k : Nat, r = (k : Int) := ⟨r.toNat, by omega⟩
            have hk : k < L.length := by omega
            have er : (L.map D.str).eraseIdx k = (L.eraseIdx k).map .str := erase_map _ _ _
            refine ⟨rfl, k, .str L[k], rfl, by rw [List.getElem?_map, List.getElem?_eq_getElem hk]; rfl, by omega, by rw [List.length_map, sizeLine_eq]; omega, by omega, L.eraseIdx k, M ++ [L[k]], .val (.int (0 + (t : Int))), by rw [List.length_append]; show M.length + 1 ≤ _; omega, move_perm hk hp, ?_⟩
            rw [List.map_append, ← er]; rfl
          · walk_at "ws1"
            exact ⟨by omega, L, M, .val (.int (0 + (t : Int))), by omega, hp, rfl⟩
        · rintro m1 ρ1 ⟨hm1, L, M, x6, hM, hp, rfl⟩
          rw [rangeD_len] at hm1 hM
          exact ⟨by omega, M, .own (L.map .str), x6, by omega, fun x hx => hp.mem_iff.mp (List.mem_append_left _ hx), rfl⟩
      rintro n1 ρ1 ⟨hn1, M, x4, x6, hM3, hMm, rfl⟩
      refine ws_freeze 5 rfl ?_
      refine ws_llapp (i := 2) rfl (wf_lst ?_)
      walk_at "go"
      refine r2_ix (f := .str N[i]) (ixD_nat (by rw [List.getElem?_map, hNi]; rfl)) ?_
      walk_at "go"
      refine ⟨b, q, _, rfl, rfl, by decide, by decide, by omega, fun a ha0 ha1 => ?_⟩
      walk_at "go"
      refine ⟨Nat.le_of_ble_eq_true rfl, ?_⟩
      walk_at "go"
      refine ⟨b, q, 2, rfl, rfl, by decide, by decide, by omega, fun r h0 h4 => ?_⟩
      have h3 : ∃ kd : Str, enB (.str kd) = true ∧ ixD (.lst [.str "query", .str "action"]) r = some (.str kd) := by
        obtain rfl | rfl : r = 0 ∨ r = 1 := by omega
        · exact ⟨"query", by decide +kernel, rfl⟩
        · exact ⟨"action", by decide +kernel, rfl⟩
      obtain ⟨kd, hkd, hix⟩ := h3
      refine r2_ix hix ?_
      walk_at "go"
      refine ⟨Nat.le_of_ble_eq_true rfl, by rw [sizeLine_eq]; omega, fun p => ?_⟩
      refine ⟨by omega, rs ++ [(p, rowL ⟨.str N[i], .int (1 + a), .str kd, M.map .str⟩)], es ++ [⟨.str N[i], .int (1 + a), .str kd, M.map .str⟩], .val (.int i), x4, .val (.lst (M.map .str)), x6, by rw [List.length_append]; show es.length + 1 = _; omega, by rw [List.map_append, List.map_append, hrs]; rfl, fun e he => ?_, rfl⟩
      rcases List.mem_append.mp he with z | z
      · exact hg e z
      · rw [List.mem_singleton.mp z]
        refine ⟨PL_nm (hNm _ (List.getElem_mem hi)), rfl, hkd, fun x hx => ?_, by rw [List.length_map]; omega⟩
        obtain ⟨y, hy, rfl⟩ := List.mem_map.mp hx
        exact nmB_en (PL_nm (hNm _ (List.mem_of_mem_take (hMm y hy))))
    · rintro m ρ1 ⟨hm, rs, es, x3, x4, x5, x6, hes, hrs, hg, rfl⟩
      rw [rangeD_len] at hm hes
      refine wst_ret rfl ?_
      rw [hrs]
      exact kk es m (by omega) hg (by omega)
/-! spoiled -/
theorem rows_at {rs : List (Addr × List D)} {es : List Evx} (h : rs.map (·.2) = es.map rowL) {k : Nat} {e : Evx} (he : es[k]? = some e) : ∃ p, rs[k]? = some (p, rowL e) := by
  have : (rs.map (·.2))[k]? = some (rowL e) := by rw [h, List.getElem?_map, he]; rfl
  rw [List.getElem?_map] at this
  cases q : rs[k]? with
  | none => rw [q] at this; cases this
  | some r =>
    rw [q] at this
    obtain ⟨p, x⟩ := r
    cases this
    exact ⟨p, rfl⟩
theorem rows_set {rs : List (Addr × List D)} {es : List Evx} (h : rs.map (·.2) = es.map rowL) (k : Nat) (p : Addr) (e : Evx) : (rs.set k (p, rowL e)).map (·.2) = (es.set k e).map rowL := by
  rw [List.map_set, List.map_set, h]
theorem drw_set {es : List Evx} {m k : Nat} {e : Evx} (h : ∀ x ∈ es, Drw m x) (he : Drw m e) : ∀ x ∈ es.set k e, Drw m x := fun x hx => by
  rcases List.mem_or_eq_of_mem_set hx with z | z
  · exact h x z
  · rw [z]; exact he
theorem tab8 {r : Int} (h0 : 0 ≤ r) (h1 : r < 8) : ∃ d, ixD (.lst [.str "", .str "A", .str "0a", .str "abcdefghi", .int 7, .non, .str "a b", .str "a_"]) r = some d ∧ nmB d = true := by
  obtain rfl | rfl | rfl | rfl | rfl | rfl | rfl | rfl : r = 0 ∨ r = 1 ∨ r = 2 ∨ r = 3 ∨ r = 4 ∨ r = 5 ∨ r = 6 ∨ r = 7 := by omega
  all_goals exact ⟨_, rfl, by decide +kernel⟩
theorem tab6 {r : Int} (h0 : 0 ≤ r) (h1 : r < 6) : ∃ d, ixD (.lst [.int 0, .int 6, .int (0 - 1), .bl true, .non, .str "1"]) r = some d ∧ enB d = true := by
  obtain rfl | rfl | rfl | rfl | rfl | rfl : r = 0 ∨ r = 1 ∨ r = 2 ∨ r = 3 ∨ r = 4 ∨ r = 5 := by omega
  all_goals exact ⟨_, rfl, by decide +kernel⟩
theorem tab5 {r : Int} (h0 : 0 ≤ r) (h1 : r < 5) : ∃ d, ixD (.lst [.str "Query", .str "", .non, .str "act", .int 1]) r = some d ∧ enB d = true := by
  obtain rfl | rfl | rfl | rfl | rfl : r = 0 ∨ r = 1 ∨ r = 2 ∨ r = 3 ∨ r = 4 := by omega
  all_goals exact ⟨_, rfl, by decide +kernel⟩
theorem tab4 {r : Int} (h0 : 0 ≤ r) (h1 : r < 4) : ∃ c : Nat, ixD (.lst [.int 0, .int 1, .int 1, .int 2]) r = some (.int (c : Int)) ∧ c ≤ 2 := by
  obtain rfl | rfl | rfl | rfl : r = 0 ∨ r = 1 ∨ r = 2 ∨ r = 3 := by omega
  · exact ⟨0, rfl, by decide⟩
  · exact ⟨1, rfl, by decide⟩
  · exact ⟨1, rfl, by decide⟩
  · exact ⟨2, rfl, by decide⟩
def spSpoil : SpecS := fun bag n ds rows Φ => ∃ (b q : Addr) (es : List Evx), bag = some (b, q) ∧ ds = [.adr b] ∧ rows = es.map rowL ∧ es.length ≤ 14 ∧ (∀ e ∈ es, Drw 0 e) ∧ n + 100 < 2 ^ 60 ∧ ∀ (es : List Evx) n', es.length ≤ 14 → (∀ e ∈ es, Drw 4 e) → n' ≤ n + 20 → Φ n' (.lst (es.map rowX))
def StS (b : Addr) (l : Addr) (t a wh : Int) (len N m : Nat) (n1 : Nat) (ρ1 : List SD) : Prop := n1 ≤ N ∧ ∃ (rs : List (Addr × List D)) (es : List Evx), rs.map (·.2) = es.map rowL ∧ es.length = len ∧ (∀ e ∈ es, Drw m e) ∧ ρ1 = [.val (.adr b), .ot (LL l rs), .val (.int t), .val (.int a), .val (.int wh)]
abbrev s_law_spoil : Stmt := top 23
abbrev N_law_spoil : List Str := ["bag", "events", "turn", "at", "what"]
theorem sc_law_spoil : FnScope N_law_spoil ["bag", "events"] (defScope s_law_spoil) := ⟨rfl, rfl, rfl, by decide +kernel, rfl, by decide +kernel, by decide +kernel⟩

theorem ok_spoil {f : Addr} {fd : FuncData} (F : Fun K "_law_spoil" "_law_spoil" s_law_spoil f fd) (T : Txt mg) (D_law_draw : Dn P w K mg base "_law_draw" 1 ["bag", "limit"] [] [] spDraw) : FnOk P w K mg base CX0 2 f fd ["bag", "events"] (spS P w K spSpoil) := by
  refine fn_S F sc_law_spoil (fun bag n ds rows Φ h => ?_) (fun cdv A outer s H Ex O bag n ds l rs0 Φ hr h => ?_)
  · obtain ⟨b, q, es, _, e, _⟩ := h
    rw [e]; rfl
  · obtain ⟨b, q, es0, eb, e, hrs0, h14, hd0, hn, kk⟩ := h
    subst eb; subst e
    refine ⟨_, (pss_cons (ps_for PassesOwn.never rfl (pi_range1 (by rfl) T.b_range (pa_cons (pe_ix (x_ix K) (pe_lst (pa_cons pe_int (pa_cons pe_int (pa_cons pe_int (pa_cons pe_int pa_nil))))) (pe_call D_law_draw.G (hr.mono (by decide)) (by rfl) D_law_draw.m D_law_draw.k D_law_draw.b D_law_draw.v pass0 (pa_cons (pv 0) (pa_cons pe_int pa_nil))) (fun _ _ => rfl)) pa_nil)) (pg_name (i := 2) sc_law_spoil.nd rfl (Or.inl rfl)) (pss_one (ps_if (pt_cmpR op_gt (pe_callB (x_len K) (by rfl) T.b_len (by decide +kernel) (pa_cons (pv 1) pa_nil)) pe_int (nomark _)) (pss_cons (ps_set (i := 3) sc_law_spoil.nd rfl (Or.inl rfl) (pe_call D_law_draw.G (hr.mono (by decide)) (by rfl) D_law_draw.m D_law_draw.k D_law_draw.b D_law_draw.v pass0 (pa_cons (pv 0) (pa_cons (pe_callB (x_len K) (by rfl) T.b_len (by decide +kernel) (pa_cons (pv 1) pa_nil)) pa_nil))))
  (pss_cons (ps_set (i := 4) sc_law_spoil.nd rfl (Or.inl rfl) (pe_call D_law_draw.G (hr.mono (by decide)) (by rfl) D_law_draw.m D_law_draw.k D_law_draw.b D_law_draw.v pass0 (pa_cons (pv 0) (pa_cons pe_int pa_nil))))
  (pss_cons (ps_if (pt_cmpR (x_eq K (by exact hr.units)) (pv 4) pe_int (nomark _)) (pss_one (ps_asg (pe_ix (x_ix K) (pe_lst (pa_cons pe_str (pa_cons pe_str (pa_cons pe_str (pa_cons pe_str (pa_cons pe_int (pa_cons pe_non (pa_cons pe_str (pa_cons pe_str pa_nil))))))))) (pe_call D_law_draw.G (hr.mono (by decide)) (by rfl) D_law_draw.m D_law_draw.k D_law_draw.b D_law_draw.v pass0 (pa_cons (pv 0) (pa_cons pe_int pa_nil))) (fun _ _ => rfl)) (pg_sub (pe_ix (x_ix K) (pv 1) (pv 3) (fun _ _ => rfl)) pe_int set_list))) pss_nil)
  (pss_cons (ps_if (pt_cmpR (x_eq K (by exact hr.units)) (pv 4) pe_int (nomark _)) (pss_one (ps_asg (pe_ix (x_ix K) (pe_ix (x_ix K) (pv 1) (pe_call D_law_draw.G (hr.mono (by decide)) (by rfl) D_law_draw.m D_law_draw.k D_law_draw.b D_law_draw.v pass0 (pa_cons (pv 0) (pa_cons (pe_callB (x_len K) (by rfl) T.b_len (by decide +kernel) (pa_cons (pv 1) pa_nil)) pa_nil))) (fun _ _ => rfl)) pe_int (fun _ _ => rfl)) (pg_sub (pe_ix (x_ix K) (pv 1) (pv 3) (fun _ _ => rfl)) pe_int set_list))) pss_nil)
  (pss_cons (ps_if (pt_cmpR (x_eq K (by exact hr.units)) (pv 4) pe_int (nomark _)) (pss_one (ps_asg (pe_ix (x_ix K) (pe_lst (pa_cons pe_int (pa_cons pe_int (pa_cons (pe_op op_sub pe_int pe_int) (pa_cons pe_bl (pa_cons pe_non (pa_cons pe_str pa_nil))))))) (pe_call D_law_draw.G (hr.mono (by decide)) (by rfl) D_law_draw.m D_law_draw.k D_law_draw.b D_law_draw.v pass0 (pa_cons (pv 0) (pa_cons pe_int pa_nil))) (fun _ _ => rfl)) (pg_sub (pe_ix (x_ix K) (pv 1) (pv 3) (fun _ _ => rfl)) pe_int set_list))) pss_nil)
  (pss_cons (ps_if (pt_cmpR (x_eq K (by exact hr.units)) (pv 4) pe_int (nomark _)) (pss_one (ps_asg (pe_ix (x_ix K) (pe_lst (pa_cons pe_str (pa_cons pe_str (pa_cons pe_non (pa_cons pe_str (pa_cons pe_int pa_nil)))))) (pe_call D_law_draw.G (hr.mono (by decide)) (by rfl) D_law_draw.m D_law_draw.k D_law_draw.b D_law_draw.v pass0 (pa_cons (pv 0) (pa_cons pe_int pa_nil))) (fun _ _ => rfl)) (pg_sub (pe_ix (x_ix K) (pv 1) (pv 3) (fun _ _ => rfl)) pe_int set_list))) pss_nil)
  (pss_cons (ps_if (pt_cmpR (x_eq K (by exact hr.units)) (pv 4) pe_int (nomark _)) (pss_one (ps_asg (pe_op (x_add K) (pe_ix (x_ix K) (pe_ix (x_ix K) (pv 1) (pv 3) (fun _ _ => rfl)) pe_int (fun _ _ => rfl)) (pe_lst (pa_cons (pe_ix (x_ix K) (pe_ix (x_ix K) (pv 1) (pe_call D_law_draw.G (hr.mono (by decide)) (by rfl) D_law_draw.m D_law_draw.k D_law_draw.b D_law_draw.v pass0 (pa_cons (pv 0) (pa_cons (pe_callB (x_len K) (by rfl) T.b_len (by decide +kernel) (pa_cons (pv 1) pa_nil)) pa_nil))) (fun _ _ => rfl)) pe_int (fun _ _ => rfl)) pa_nil))) (pg_sub (pe_ix (x_ix K) (pv 1) (pv 3) (fun _ _ => rfl)) pe_int set_list))) pss_nil)
  (pss_one (ps_if (pt_cmpR (x_eq K (by exact hr.units)) (pv 4) pe_int (nomark _)) (pss_one (ps_asg (pe_op (x_add K) (pe_ix (x_ix K) (pe_ix (x_ix K) (pv 1) (pv 3) (fun _ _ => rfl)) pe_int (fun _ _ => rfl)) (pe_lst (pa_cons pe_str pa_nil))) (pg_sub (pe_ix (x_ix K) (pv 1) (pv 3) (fun _ _ => rfl)) pe_int set_list))) pss_nil))))))))) pss_nil)))
  (pss_one (ps_ret (pv 1)))), ?_⟩
    show WS _ _ [.val (.adr b), .ot (LL l rs0), .un, .un, .un] n _
    refine ws_seq ?_
    refine ws_for ?_
    walk_at "go"
    refine ⟨Nat.le_of_ble_eq_true rfl, ?_⟩
    walk_at "go"
    refine ⟨b, q, 4, rfl, rfl, by decide, by decide, by omega, fun r h0 h4 => ?_⟩
    obtain ⟨c, hc, hc2⟩ := tab4 h0 h4
    refine r2_ix hc ?_
    refine wa_nil ⟨_, rfl, by omega, by omega, ?_⟩
    have hcn : ((c : Nat) : Int).toNat = c := by omega
    rw [hcn]
    refine ⟨fun i m ρ => m ≤ n + 1 + 8 * i ∧ ∃ (rs : List (Addr × List D)) (es : List Evx) (x2 x3 x4 : SD), rs.map (·.2) = es.map rowL ∧ es.length ≤ 14 ∧ (∀ e ∈ es, Drw (2 * i) e) ∧ ρ = [.val (.adr b), .ot (LL l rs), x2, x3, x4], ⟨Nat.le_refl _, rs0, es0, .un, .un, .un, hrs0, h14, hd0, rfl⟩, ?_, ?_⟩
    · rintro i m ρ1 d hd ⟨hm, rs, es, x2, x3, x4, hrs, hl14, hg, rfl⟩
      obtain ⟨hi, rfl⟩ := rangeD_get hd
      generalize ht : (0 : Int) + (i : Int) = t
      have hrl : rs.length = es.length := by
        have := congrArg List.length hrs
        rwa [List.length_map, List.length_map] at this
      walk_at "wg1"
      refine ws_if (wt_lookLL 1 rfl ?_)
      walk_at "go"
      rw [List.length_map, hrl]
      refine dec2 (fun h1 => ?B1) (fun h1 => ?B2)
      case B2 =>
        walk_at "ws1"
        exact ⟨by omega, rs, es, _, _, _, hrs, hl14, fun e he => (hg e he).up (by omega), rfl⟩
      walk_at "ws1"
      refine ws_set (we_lookLL 1 rfl ?_)
      walk_at "go"
      rw [List.length_map, hrl]
      refine ⟨b, q, _, rfl, rfl, by omega, by omega, by omega, fun r h0 h4 => ?_⟩
      obtain ⟨a, rfl⟩ : ∃ a : Nat, r = (a : Int) := ⟨r.toNat, by omega⟩
      have ha : a < es.length := by omega
      refine ⟨rfl, ?_⟩
      walk_at "ws1"
      walk_at "ws1"
      walk_at "go"
      refine ⟨b, q, 6, rfl, rfl, by decide, by decide, by omega, fun wh hw0 hw6 => ?_⟩
      obtain ⟨len, hel⟩ : ∃ len, es.length = len := ⟨_, rfl⟩
      rw [hel] at ha hl14
      clear hrl h1
      refine ws_cut (StS b l t a wh len (m + 3) (2 * i)) ?_ ?_
      · have ha' : a < es.length := by omega
        have hrl : rs.length = es.length := by
          have := congrArg List.length hrs
          rwa [List.length_map, List.length_map] at this
        obtain ⟨p, hp⟩ := rows_at hrs (List.getElem?_eq_getElem ha')
        have hga := hg _ (List.getElem_mem ha')
        generalize es[a] = ev at hp hga
        refine ws_if ?_
        walk_at "go"
        refine dec2 (fun hw => ?_) (fun hw => ?_)
        · refine ws_llset (i := 1) rfl ?_
          walk_at "go"
          refine ⟨Nat.le_of_ble_eq_true rfl, ?_⟩
          walk_at "go"
          refine ⟨b, q, 8, rfl, rfl, by decide, by decide, by omega, fun r h0 h4 => ?_⟩
          obtain ⟨d, hd, hdB⟩ := tab8 h0 h4
          refine r2_ix hd ?_
          walk_at "we1"
          refine ⟨a, p, _, rfl, hp, ?_⟩
          walk_at "we1"
          refine ⟨0, rfl, by show 0 < 4; decide, ?_⟩
          exact ⟨by omega, rs.set a (p, rowL ⟨d, ev.en, ev.kd, ev.ns⟩), es.set a ⟨d, ev.en, ev.kd, ev.ns⟩, rows_set hrs a p _, by rw [List.length_set]; exact hel, drw_set (fun e he => (hg e he).up (by omega)) ⟨hdB, hga.en, hga.kd, hga.ns, by have := hga.le; exact this⟩, rfl⟩
        · walk_at "ws1"
          exact ⟨by omega, rs, es, hrs, hel, (fun e he => (hg e he).up (by omega)), rfl⟩
      rintro n2 ρ1 ⟨hn2, rs, es, hrs, hel, hg, rfl⟩
      refine ws_cut (StS b l t a wh len (m + 4) (2 * i)) ?_ ?_
      · have ha' : a < es.length := by omega
        have hrl : rs.length = es.length := by
          have := congrArg List.length hrs
          rwa [List.length_map, List.length_map] at this
        obtain ⟨p, hp⟩ := rows_at hrs (List.getElem?_eq_getElem ha')
        have hga := hg _ (List.getElem_mem ha')
        generalize es[a] = ev at hp hga
        refine ws_if ?_
        walk_at "go"
        refine dec2 (fun hw => ?_) (fun hw => ?_)
        · refine ws_llset (i := 1) rfl ?_
          refine we_llget (i := 1) rfl (we_lookLL 1 rfl ?_)
          walk_at "go"
          rw [List.length_map, hrl]
          refine ⟨b, q, _, rfl, rfl, by omega, by omega, by omega, fun r h0 h4 => ⟨rfl, ?_⟩⟩
          obtain ⟨j, rfl⟩ : ∃ j : Nat, r = (j : Int) := ⟨r.toNat, by omega⟩
          have hj : j < es.length := by omega
          obtain ⟨p2, hp2⟩ := rows_at hrs (List.getElem?_eq_getElem hj)
          have hgj := hg _ (List.getElem_mem hj)
          generalize es[j] = ej at hp2 hgj
          refine ⟨j, p2, _, rfl, hp2, ?_⟩
          walk_at "we1"
          refine ⟨0, _, rfl, rfl, ?_⟩
          walk_at "we1"
          refine ⟨a, p, _, rfl, hp, ?_⟩
          walk_at "we1"
          refine ⟨0, rfl, by show 0 < 4; decide, ?_⟩
          exact ⟨by omega, rs.set a (p, rowL ⟨ej.nm, ev.en, ev.kd, ev.ns⟩), es.set a ⟨ej.nm, ev.en, ev.kd, ev.ns⟩, rows_set hrs a p _, by rw [List.length_set]; exact hel, drw_set (fun e he => (hg e he).up (by omega)) ⟨hgj.nm, hga.en, hga.kd, hga.ns, by have := hga.le; exact this⟩, rfl⟩
        · walk_at "ws1"
          exact ⟨by omega, rs, es, hrs, hel, (fun e he => (hg e he).up (by omega)), rfl⟩
      rintro n2 ρ1 ⟨hn2, rs, es, hrs, hel, hg, rfl⟩
      refine ws_cut (StS b l t a wh len (m + 5) (2 * i)) ?_ ?_
      · have ha' : a < es.length := by omega
        have hrl : rs.length = es.length := by
          have := congrArg List.length hrs
          rwa [List.length_map, List.length_map] at this
        obtain ⟨p, hp⟩ := rows_at hrs (List.getElem?_eq_getElem ha')
        have hga := hg _ (List.getElem_mem ha')
        generalize es[a] = ev at hp hga
        refine ws_if ?_
        walk_at "go"
        refine dec2 (fun hw => ?_) (fun hw => ?_)
        · refine ws_llset (i := 1) rfl ?_
          walk_at "go"
          refine ⟨Nat.le_of_ble_eq_true rfl, ?_⟩
          walk_at "go"
          refine ⟨b, q, 6, rfl, rfl, by decide, by decide, by omega, fun r h0 h4 => ?_⟩
          obtain ⟨d, hd, hdB⟩ := tab6 h0 h4
          refine r2_ix hd ?_
          walk_at "we1"
          refine ⟨a, p, _, rfl, hp, ?_⟩
          walk_at "we1"
          refine ⟨1, rfl, by show 1 < 4; decide, ?_⟩
          exact ⟨by omega, rs.set a (p, rowL ⟨ev.nm, d, ev.kd, ev.ns⟩), es.set a ⟨ev.nm, d, ev.kd, ev.ns⟩, rows_set hrs a p _, by rw [List.length_set]; exact hel, drw_set (fun e he => (hg e he).up (by omega)) ⟨hga.nm, hdB, hga.kd, hga.ns, by have := hga.le; exact this⟩, rfl⟩
        · walk_at "ws1"
          exact ⟨by omega, rs, es, hrs, hel, (fun e he => (hg e he).up (by omega)), rfl⟩
      rintro n2 ρ1 ⟨hn2, rs, es, hrs, hel, hg, rfl⟩
      refine ws_cut (StS b l t a wh len (m + 6) (2 * i)) ?_ ?_
      · have ha' : a < es.length := by omega
        have hrl : rs.length = es.length := by
          have := congrArg List.length hrs
          rwa [List.length_map, List.length_map] at this
        obtain ⟨p, hp⟩ := rows_at hrs (List.getElem?_eq_getElem ha')
        have hga := hg _ (List.getElem_mem ha')
        generalize es[a] = ev at hp hga
        refine ws_if ?_
        walk_at "go"
        refine dec2 (fun hw => ?_) (fun hw => ?_)
        · refine ws_llset (i := 1) rfl ?_
          walk_at "go"
          refine ⟨Nat.le_of_ble_eq_true rfl, ?_⟩
          walk_at "go"
          refine ⟨b, q, 5, rfl, rfl, by decide, by decide, by omega, fun r h0 h4 => ?_⟩
          obtain ⟨d, hd, hdB⟩ := tab5 h0 h4
          refine r2_ix hd ?_
          walk_at "we1"
          refine ⟨a, p, _, rfl, hp, ?_⟩
          walk_at "we1"
          refine ⟨2, rfl, by show 2 < 4; decide, ?_⟩
          exact ⟨by omega, rs.set a (p, rowL ⟨ev.nm, ev.en, d, ev.ns⟩), es.set a ⟨ev.nm, ev.en, d, ev.ns⟩, rows_set hrs a p _, by rw [List.length_set]; exact hel, drw_set (fun e he => (hg e he).up (by omega)) ⟨hga.nm, hga.en, hdB, hga.ns, by have := hga.le; exact this⟩, rfl⟩
        · walk_at "ws1"
          exact ⟨by omega, rs, es, hrs, hel, (fun e he => (hg e he).up (by omega)), rfl⟩
      rintro n2 ρ1 ⟨hn2, rs, es, hrs, hel, hg, rfl⟩
      refine ws_cut (StS b l t a wh len (m + 7) (2 * i + 1)) ?_ ?_
      · have ha' : a < es.length := by omega
        have hrl : rs.length = es.length := by
          have := congrArg List.length hrs
          rwa [List.length_map, List.length_map] at this
        obtain ⟨p, hp⟩ := rows_at hrs (List.getElem?_eq_getElem ha')
        have hga := hg _ (List.getElem_mem ha')
        generalize es[a] = ev at hp hga
        refine ws_if ?_
        walk_at "go"
        refine dec2 (fun hw => ?_) (fun hw => ?_)
        · refine ws_llset (i := 1) rfl ?_
          refine we_op (we_llget (i := 1) rfl ?_)
          walk_at "we1"
          refine ⟨a, p, _, rfl, hp, ?_⟩
          walk_at "we1"
          refine ⟨3, _, rfl, rfl, ?_⟩
          refine we_lst (wa_cons (we_llget (i := 1) rfl (we_lookLL 1 rfl ?_)))
          walk_at "go"
          rw [List.length_map, hrl]
          refine ⟨b, q, _, rfl, rfl, by omega, by omega, by omega, fun r h0 h4 => ⟨rfl, ?_⟩⟩
          obtain ⟨j, rfl⟩ : ∃ j : Nat, r = (j : Int) := ⟨r.toNat, by omega⟩
          have hj : j < es.length := by omega
          obtain ⟨p2, hp2⟩ := rows_at hrs (List.getElem?_eq_getElem hj)
          have hgj := hg _ (List.getElem_mem hj)
          generalize es[j] = ej at hp2 hgj
          refine ⟨j, p2, _, rfl, hp2, ?_⟩
          walk_at "we1"
          refine ⟨0, _, rfl, rfl, ?_⟩
          refine wa_nil ⟨Nat.le_of_ble_eq_true rfl, ?_⟩
          refine r2_cat (by have := hga.le; show _ + 1 ≤ _; omega) ?_
          walk_at "we1"
          refine ⟨a, p, _, rfl, hp, ?_⟩
          walk_at "we1"
          refine ⟨3, rfl, by show 3 < 4; decide, ?_⟩
          exact ⟨by omega, rs.set a (p, rowL ⟨ev.nm, ev.en, ev.kd, ev.ns ++ [ej.nm]⟩), es.set a ⟨ev.nm, ev.en, ev.kd, ev.ns ++ [ej.nm]⟩, rows_set hrs a p _, by rw [List.length_set]; exact hel, drw_set (fun e he => (hg e he).up (by omega)) ⟨hga.nm, hga.en, hga.kd, (fun x hx => by rcases List.mem_append.mp hx with z | z; exact hga.ns x z; rw [List.mem_singleton.mp z]; exact nmB_en hgj.nm), by rw [List.length_append]; have := hga.le; show _ + 1 ≤ _; omega⟩, rfl⟩
        · walk_at "ws1"
          exact ⟨by omega, rs, es, hrs, hel, (fun e he => (hg e he).up (by omega)), rfl⟩
      rintro n2 ρ1 ⟨hn2, rs, es, hrs, hel, hg, rfl⟩
      · have ha' : a < es.length := by omega
        have hrl : rs.length = es.length := by
          have := congrArg List.length hrs
          rwa [List.length_map, List.length_map] at this
        obtain ⟨p, hp⟩ := rows_at hrs (List.getElem?_eq_getElem ha')
        have hga := hg _ (List.getElem_mem ha')
        generalize es[a] = ev at hp hga
        refine ws_if ?_
        walk_at "go"
        refine dec2 (fun hw => ?_) (fun hw => ?_)
        · refine ws_llset (i := 1) rfl ?_
          refine we_op (we_llget (i := 1) rfl ?_)
          walk_at "we1"
          refine ⟨a, p, _, rfl, hp, ?_⟩
          walk_at "we1"
          refine ⟨3, _, rfl, rfl, ?_⟩
          walk_at "go"
          refine ⟨Nat.le_of_ble_eq_true rfl, ?_⟩
          refine r2_cat (by have := hga.le; show _ + 1 ≤ _; omega) ?_
          walk_at "we1"
          refine ⟨a, p, _, rfl, hp, ?_⟩
          walk_at "we1"
          refine ⟨3, rfl, by show 3 < 4; decide, ?_⟩
          exact ⟨by omega, rs.set a (p, rowL ⟨ev.nm, ev.en, ev.kd, ev.ns ++ [.str "nobody"]⟩), es.set a ⟨ev.nm, ev.en, ev.kd, ev.ns ++ [.str "nobody"]⟩, _, _, _, rows_set hrs a p _, by rw [List.length_set]; omega, drw_set (fun e he => (hg e he).up (by omega)) ⟨hga.nm, hga.en, hga.kd, (fun x hx => by rcases List.mem_append.mp hx with z | z; exact hga.ns x z; rw [List.mem_singleton.mp z]; decide +kernel), by rw [List.length_append]; have := hga.le; show _ + 1 ≤ _; omega⟩, rfl⟩
        · walk_at "ws1"
          exact ⟨by omega, rs, es, _, _, _, hrs, (by omega), (fun e he => (hg e he).up (by omega)), rfl⟩
    · rintro m ρ1 ⟨hm, rs, es, x2, x3, x4, hrs, hl14, hg, rfl⟩
      rw [rangeD_len] at hm hg
      refine ws_freezeLL 1 rfl ?_
      walk_at "ws1"
      walk_at "go"
      have e1 : (rs.map fun r => D.lst r.2) = es.map rowX := by
        have := congrArg (List.map D.lst) hrs
        rw [List.map_map, List.map_map] at this
        exact this
      rw [e1]
      exact kk es m hl14 (fun e he => (hg e he).up (by omega)) (by omega)

end
end Toy
namespace Toy
open PySem L2 L3
local macro_rules | `(tactic| walk_at "we1") => `(tactic| first
  | ((with_reducible refine' we_var ?hv ?_); (case hv => rfl))
  | (with_reducible refine we_int ?_)
  | (with_reducible refine we_str ?_)
  | (with_reducible refine we_bl ?_)
  | (with_reducible refine we_non ?_)
  | ((with_reducible refine' we_dix ?hv ?_); (case hv => rfl))
  | (with_reducible refine we_op ?_)
  | ((with_reducible refine' we_dget ?hv ?_); (case hv => rfl))
  | (with_reducible refine we_count ?_)
  | (with_reducible refine we_cb ?_)
  | (with_reducible refine we_call0 ?_)
  | (with_reducible refine we_tup ?_)
  | (with_reducible refine we_lst ?_)
  | (with_reducible refine we_if ?_)
  | (with_reducible refine we_not ?_)
  | (with_reducible refine we_and ?_)
  | (with_reducible refine we_or ?_)
  | (with_reducible refine we_isN ?_)
  | (with_reducible refine we_notN ?_)
  | (with_reducible refine we_sl ?_)
  | (with_reducible refine wa_cons ?_)
  | (with_reducible refine wa_nil ?_)
  | (with_reducible refine wt_test ?_)
  | (with_reducible refine wt_B ?_)
  | (with_reducible refine wt_and ?_)
  | (with_reducible refine wt_or ?_)
  | (with_reducible refine wt_not ?_)
  | (with_reducible refine wt_yes ?_)
  | (with_reducible refine wo_none ?_)
  | (with_reducible refine wo_some ?_)
  | ((with_reducible refine' r2_ix ?hx ?_); (case hx => rfl))
  | (with_reducible refine r2_isN ?_)
  | (with_reducible refine r2_notN ?_)
  | (with_reducible refine r2_lt ?_)
  | (with_reducible refine r2_le ?_)
  | (with_reducible refine r2_gt ?_)
  | (with_reducible refine r2_ge ?_)
  | (with_reducible refine r2_sub ?_)
  | (with_reducible refine r2_addI ?_)
  | (with_reducible refine r2_eqI ?_)
  | (with_reducible refine r2_neI ?_)
  | (with_reducible refine rc_int ?_)
  | (with_reducible refine rc_abs ?_)
  | ((with_reducible refine' rc_len ?hl ?_); (case hl => rfl))
  | (with_reducible refine wi_seq ?_)
  | (with_reducible refine wi_rng1 ?_)
  | (with_reducible refine wi_rng2 ?_)
  | (with_reducible refine wi_enum ?_)
  | (refine ⟨_, rfl, ?_⟩))
local macro_rules | `(tactic| walk_at "ws1") => `(tactic| first
  | (with_reducible refine ws_seq ?_)
  | (with_reducible refine ws_set ?_)
  | (with_reducible refine ws_ret ?_)
  | (with_reducible refine ws_if ?_)
  | (with_reducible refine ws_next ?_)
  | (with_reducible refine ws_asg ?_))
local macro_rules | `(tactic| walk_at "wg1") => `(tactic| first
  | (with_reducible refine wg_name (rw_name (by decide)) ?_)
  | (with_reducible refine wg_name (fun _ _ => trivial) ?_)
  | ((with_reducible refine' wg_tup ?hl ?_); (case hl => rfl))
  | (with_reducible refine wgs_cons rw_trans ?_)
  | (with_reducible refine wgs_nil rw_refl ?_)
  | (with_reducible refine wgs_cons (fun _ _ _ _ _ => trivial) ?_)
  | (with_reducible refine wgs_nil (fun _ => trivial) ?_))
local macro_rules | `(tactic| walk_at "go") => `(tactic| repeat' (first | walk_at "we1" | walk_at "wg1"))
section
variable {P : Program} {w : World} {K : PySem.W.Frag} {mg : Str → Option Value} {base : Heap}
/-! names, by the law -/
def outSign : D → Bool
  | .str x => !decide (x.cps.toList.headD 0 ∈ signs36.cps.toList)
  | _ => false
def digs10 : Str := "0123456789"
theorem let_dig {u : Nat} (h : u ∈ signs36.cps.toList) : decide (u ∈ letters.cps.toList) = !decide (u ∈ digs10.cps.toList) := by
  have : signs36.cps.toList.all (fun u => decide (u ∈ letters.cps.toList) == !decide (u ∈ digs10.cps.toList)) = true := by decide +kernel
  exact eq_of_beq (List.all_eq_true.mp this u h)
theorem isName_big {z : Str} (h : ¬ z.cps.size ≤ 8) : isName z = false := by
  unfold isName
  rw [decide_eq_false h, Bool.and_false]; rfl
theorem isName_none {z : Str} (h : z.cps.size = 0) : isName z = false := by
  unfold isName
  rw [decide_eq_false (by omega : ¬ 1 ≤ z.cps.size)]; rfl
abbrev s_law_is_name : Stmt := top 24
abbrev N_law_is_name : List Str := ["thing", "sign", "bad"]
theorem sc_law_is_name : FnScope N_law_is_name ["thing"] (defScope s_law_is_name) := ⟨rfl, rfl, rfl, by decide +kernel, rfl, by decide +kernel, by decide +kernel⟩

theorem ok_lname {f : Addr} {fd : FuncData} (F : Fun K "_law_is_name" "_law_is_name" s_law_is_name f fd) (T : Txt mg) : FnOk P w K mg base CX0 1 f fd ["thing"] (spD K spNameT) := by
  refine fn_D F sc_law_is_name (fun bag n ds Φ h => ?_) (fun cdv A outer s H E O bag n ds Φ hr h => ?_)
  · obtain ⟨d, e, _⟩ := h
    rw [e]; rfl
  · obtain ⟨d, e, ht, kk⟩ := h
    subst e
    refine ⟨_, (pss_cons (ps_if (PW.pt (pw_or (pt_not (pt_val (pe_callB (x_isi K) (by rfl) T.b_isinstance (by decide +kernel) (pa_cons (pv 0) (pa_cons (pe_bltn (v := .ty "str") (by rfl) T.b_str (by decide +kernel) rfl) pa_nil))))) (pw_or (pt_cmpR (x_eq K (by exact hr.units)) (pe_callB (x_len K) (by rfl) T.b_len (by decide +kernel) (pa_cons (pv 0) pa_nil)) pe_int (nomark _)) (pw_or1 (pt_cmpR op_gt (pe_callB (x_len K) (by rfl) T.b_len (by decide +kernel) (pa_cons (pv 0) pa_nil)) pe_int (nomark _)))))) (pss_one (ps_ret pe_bl)) pss_nil)
  (pss_cons (ps_setLc (i := 2) (own := [("sign", 1)]) (g := gName 1) rfl sc_law_is_name.nd rfl rfl (sw_true rfl rfl rfl (by decide +kernel)) (pi_str (pv 0)) (blkOk_by (own := [("sign", 1)]) (N := N_law_is_name) (sc := defScope s_law_is_name) (by decide +kernel)) (fun _ _ _ _ _ => (pg_name (i := 1) sc_law_is_name.nd rfl (Or.inl rfl))) (fun _ _ _ _ _ => (pts_one (pt_cmpR L2.op_notInS (pv 1) pe_str (by with_unfolding_all rfl)))) (fun _ _ _ _ _ => (pv 1)))
  (pss_one (ps_ret (pe_and (pe_cmpR (x_eq K (by exact hr.units)) (pe_callB (x_len K) (by rfl) T.b_len (by decide +kernel) (pa_cons (pv 2) pa_nil)) pe_int (nomark _)) (pe_one (pe_cmpR L2.op_notInS (pe_ix (x_ix K) (pv 0) pe_int (fun _ _ => rfl)) pe_str (by with_unfolding_all rfl)))))))), ?_⟩
    show WS _ _ [.val d, .un, .un] n _
    refine ws_cut2 (Nx := fun n1 ρ1 => n1 = n ∧ (∃ z, d = .str z ∧ z.cps.size ≤ 8 ∧ 1 ≤ z.cps.size) ∧ ρ1 = [.val d, .un, .un]) ?_ ?_
    · refine ws_if ?_
      walk_at "go"
      refine we_ty ?_
      walk_at "go"
      cases d with
      | non =>
        refine rc_isi (T := "NoneType") (b := false) rfl (by decide +kernel) ⟨_, rfl, itT rfl (itT rfl ?_)⟩
        walk_at "ws1"
        walk_at "go"
        exact kk
      | bl b =>
        refine rc_isi (T := "bool") (b := false) rfl (by decide +kernel) ⟨_, rfl, itT rfl (itT rfl ?_)⟩
        walk_at "ws1"
        walk_at "go"
        exact kk
      | int i =>
        refine rc_isi (T := "int") (b := false) rfl (by decide +kernel) ⟨_, rfl, itT rfl (itT rfl ?_)⟩
        walk_at "ws1"
        walk_at "go"
        exact kk
      | lst xs =>
        refine rc_isi (T := "list") (b := false) rfl (by decide +kernel) ⟨_, rfl, itT rfl (itT rfl ?_)⟩
        walk_at "ws1"
        walk_at "go"
        exact kk
      | tup xs =>
        refine rc_isi (T := "tuple") (b := false) rfl (by decide +kernel) ⟨_, rfl, itT rfl (itT rfl ?_)⟩
        walk_at "ws1"
        walk_at "go"
        exact kk
      | str z =>
        have hz : z.cps.size ≤ 1000 := of_decide_eq_true (Bool.and_eq_true_iff.mp ht).1
        have kk' : Φ n (.bl (isName z)) := kk
        refine rc_isi (T := "str") (b := true) rfl (by decide +kernel) ⟨_, rfl, itF rfl ?_⟩
        walk_at "go"
        refine rc_len (str_len hz) ?_
        walk_at "go"
        refine dec2 (fun h1 => ?_) (fun h1 => ?_)
        · refine itT rfl ?_
          walk_at "ws1"
          walk_at "go"
          rw [isName_none (by omega)] at kk'
          exact kk'
        walk_at "go"
        refine rc_len (str_len hz) ?_
        walk_at "go"
        refine dec2 (fun h2 => ?_) (fun h2 => ?_)
        · walk_at "ws1"
          walk_at "go"
          rw [isName_big (by omega)] at kk'
          exact kk'
        walk_at "ws1"
        exact ⟨rfl, ⟨z, rfl, by omega, by omega⟩, rfl⟩
      | _ => cases ht
    rintro n1 ρ1 ⟨rfl, ⟨z, rfl, h8, h1⟩, rfl⟩
    have kk' : Φ n1 (.bl (isName z)) := kk
    have hN : isName z = (decide (z.cps.toList.headD 0 ∈ letters.cps.toList) && z.cps.toList.all fun u => decide (u ∈ signs36.cps.toList)) := by
      unfold isName
      rw [decide_eq_true h1, decide_eq_true h8]
      rfl
    rw [hN] at kk'
    walk_at "ws1"
    walk_at "ws1"
    walk_at "go"
    refine wf_we (wf_map id outSign ?_)
    refine wi_str ?_
    walk_at "go"
    refine ⟨?_, fun d hd m => ?_, ?_⟩
    · unfold signsD; rw [List.length_map, Array.length_toList]; omega
    · obtain ⟨u, _, rfl⟩ := List.mem_map.mp hd
      walk_at "go"
      refine r2_notSign ?_
      refine ⟨_, rfl, rfl, rfl, fun _ => ?_⟩
      walk_at "go"
      exact ⟨rfl, rfl⟩
    refine ws_ret (we_and ?_)
    walk_at "go"
    have e1 : decide (((((signsD z).filter outSign).map id).length : Int) = 0) = z.cps.toList.all fun u => decide (u ∈ signs36.cps.toList) := by
      rw [List.length_map]
      have e2 : ((signsD z).filter outSign).length = (z.cps.toList.filter fun u => !decide (u ∈ signs36.cps.toList)).length := by
        unfold signsD
        rw [List.filter_map, List.length_map]; rfl
      rw [e2]
      cases h : z.cps.toList.all fun u => decide (u ∈ signs36.cps.toList) with
      | true =>
        have e3 : (z.cps.toList.filter fun u => !decide (u ∈ signs36.cps.toList)) = [] := List.filter_eq_nil_iff.mpr fun u hu => by
          have := List.all_eq_true.mp h u hu
          rw [this]; decide
        rw [e3]; rfl
      | false =>
        obtain ⟨u, hu, q⟩ := List.all_eq_false.mp h
        have hm : u ∈ z.cps.toList.filter fun u => !decide (u ∈ signs36.cps.toList) := List.mem_filter.mpr ⟨hu, by simpa using q⟩
        refine decide_eq_false fun z => ?_
        have := List.length_pos_of_mem hm
        omega
    rw [e1]
    refine boo2 (fun hA => ?_) (fun hA => ?_)
    · walk_at "go"
      refine r2_ix (head_in h1 (by omega)) ?_
      walk_at "go"
      refine r2_notSign ?_
      rw [show (("0123456789" : Str)) = digs10 from rfl]
      have hh : z.cps.toList.headD 0 ∈ signs36.cps.toList := by
        have hm : z.cps.toList.headD 0 ∈ z.cps.toList := by
          cases q : z.cps.toList with
          | nil =>
            have : z.cps.toList.length = 0 := by rw [q]; rfl
            rw [Array.length_toList] at this
            omega
          | cons u l => exact List.mem_cons_self
        exact of_decide_eq_true (List.all_eq_true.mp hA _ hm)
      rw [hA, Bool.and_true, let_dig hh] at kk'
      exact kk'
    · rw [hA, Bool.and_false] at kk'
      exact kk'
/-! faults, by the law -/
def faultD (es : List Evx) : D := match faults es with
  | some (w, x) => .tup [.str w, x]
  | none => .non
theorem faultD_no {es : List Evx} (h : faults es = none) : faultD es = .non := by unfold faultD; rw [h]
theorem faultD_yes {es : List Evx} {w : Str} {x : D} (h : faults es = some (w, x)) : faultD es = .tup [.str w, x] := by unfold faultD; rw [h]
def spFaultL : L3.Spec := fun bag n ds Φ => ∃ (es : List Evx) (m : Nat), ds = [.lst (es.map rowX)] ∧ es.length ≤ 14 ∧ m ≤ 100 ∧ (∀ e ∈ es, Drw m e) ∧ Φ n (faultD es)
def hd0 : D → D
  | .lst (x :: _) => x
  | _ => .non
def badD (el : List Str) (ns : List D) : D → Bool
  | .int k => badAt el ns k.toNat
  | _ => false
theorem badD_len (el : List Str) (ns : List D) : (((rangeD 0 ns.length).filter (badD el ns)).length = 0) ↔ anyBad el ns = false := by
  unfold rangeD anyBad
  rw [List.filter_map, List.length_map]
  have e : (badD el ns ∘ fun k : Nat => D.int (0 + (k : Int))) = badAt el ns := by
    funext k
    show badAt el ns (0 + (k : Int)).toNat = _
    congr 1; omega
  rw [e, List.length_eq_zero_iff, List.filter_eq_nil_iff, List.any_eq_false]
theorem strs_back {es : List Evx} (h : ∀ e ∈ es, ∃ z, e.nm = .str z) : es.map (fun e => e.nm) = (nmsOf es).map .str := by
  unfold nmsOf
  rw [List.map_map]
  refine List.map_congr_left fun e he => ?_
  obtain ⟨z, ez⟩ := h e he
  rw [Function.comp_apply, ez]; rfl
theorem enB_fits {ns : List D} (h : ∀ x ∈ ns, enB x = true) : fit (.lst ns) = true := (fit_list fun d hd => ⟨enB_f (h d hd), by have := enB_d (h d hd); omega⟩).1
theorem enB_nd {x : D} (h : enB x = true) : isDct x = false := by
  cases x with
  | dct kvs => cases h
  | _ => rfl
abbrev s_law_fault : Stmt := top 25
abbrev N_law_fault : List Str := ["events", "place", "event", "name", "end", "kind", "needs", "other", "elder", "k", "bad"]
theorem sc_law_fault : FnScope N_law_fault ["events"] (defScope s_law_fault) := ⟨rfl, rfl, rfl, by decide +kernel, rfl, by decide +kernel, by decide +kernel⟩

theorem ok_faultL {f : Addr} {fd : FuncData} (F : Fun K "_law_fault" "_law_fault" s_law_fault f fd) (T : Txt mg) (D_law_is_name : Dn P w K mg base "_law_is_name" 1 ["thing"] [] [] spNameT) : FnOk P w K mg base CX0 2 f fd ["events"] (spD K spFaultL) := by
  refine fn_D F sc_law_fault (fun bag n ds Φ h => ?_) (fun cdv A outer s H Ex O bag n ds Φ hr h => ?_)
  · obtain ⟨es, m, e, _⟩ := h
    rw [e]; rfl
  · obtain ⟨es, μ, e, h14, hμ, hd, kk⟩ := h
    subst e
    refine ⟨_, (pss_cons (ps_if (pt_cmpR op_gt (pe_callB (x_len K) (by rfl) T.b_len (by decide +kernel) (pa_cons (pv 0) pa_nil)) pe_int (nomark _)) (pss_one (ps_ret (pe_tup (pa_cons pe_str (pa_cons pe_non pa_nil))))) pss_nil)
  (pss_cons (ps_for PassesOwn.never rfl (x_enum K (by rfl) T.b_enumerate (pa_cons (pv 0) pa_nil)) (x_tgt K (pg_tup (by rfl) (pgs_cons (pg_name (i := 1) sc_law_fault.nd rfl (Or.inl rfl)) (pgs_cons (pg_name (i := 2) sc_law_fault.nd rfl (Or.inl rfl)) pgs_nil)))) (pss_cons (ps_asg (pv 2) (pg_seqU (K := K) (by rfl) (pgs_cons (pg_name (i := 3) sc_law_fault.nd rfl (Or.inl rfl)) (pgs_cons (pg_name (i := 4) sc_law_fault.nd rfl (Or.inl rfl)) (pgs_cons (pg_name (i := 5) sc_law_fault.nd rfl (Or.inl rfl)) (pgs_cons (pg_name (i := 6) sc_law_fault.nd rfl (Or.inr rfl)) pgs_nil))))))
  (pss_cons (ps_set (i := 8) sc_law_fault.nd rfl (Or.inr rfl) (pe_lc (own := [("other", 7)]) (g := gName 7) (tt := tYes) rfl sc_law_fault.nd (x_seq K (pe_slice (x_sl K) (pv 0) po_none (po_some (pv 1)))) (blkOk_by (own := [("other", 7)]) (N := N_law_fault) (sc := defScope s_law_fault) (by decide +kernel)) (fun _ _ _ _ _ => (pg_name (i := 7) sc_law_fault.nd rfl (Or.inl rfl))) (fun _ _ _ _ _ => pts_nil) (fun _ _ _ _ _ => (pe_ix (x_ix K) (pv 7) pe_int (fun _ _ => rfl)))))
  (pss_cons (ps_if (pt_not (pt_val (pe_call D_law_is_name.G (hr.mono (by decide)) (by rfl) D_law_is_name.m D_law_is_name.k D_law_is_name.b D_law_is_name.v pass0 (pa_cons (pv 3) pa_nil)))) (pss_one (ps_ret (pe_tup (pa_cons pe_str (pa_cons (pv 3) pa_nil))))) pss_nil)
  (pss_cons (ps_if (pt_cmpR (x_in K (by exact hu65 hr)) (pv 3) (pv 8) (by with_unfolding_all rfl)) (pss_one (ps_ret (pe_tup (pa_cons pe_str (pa_cons (pv 3) pa_nil))))) pss_nil)
  (pss_cons (ps_if (PW.pt (pw_or (pt_val (pe_callB (x_isi K) (by rfl) T.b_isinstance (by decide +kernel) (pa_cons (pv 4) (pa_cons (pe_bltn (v := .ty "bool") (by rfl) T.b_bool (by decide +kernel) rfl) pa_nil)))) (pw_or (pt_not (pt_val (pe_callB (x_isi K) (by rfl) T.b_isinstance (by decide +kernel) (pa_cons (pv 4) (pa_cons (pe_bltn (v := .ty "int") (by rfl) T.b_int (by decide +kernel) rfl) pa_nil))))) (pw_or (pt_cmpR op_lt (pv 4) pe_int (nomark _)) (pw_or1 (pt_cmpR op_gt (pv 4) pe_int (nomark _))))))) (pss_one (ps_ret (pe_tup (pa_cons pe_str (pa_cons (pv 3) pa_nil))))) pss_nil)
  (pss_cons (ps_if (pt_cmpR (x_notIn K (by exact hu65 hr)) (pv 5) (pe_tup (pa_cons pe_str (pa_cons pe_str pa_nil))) (by with_unfolding_all rfl)) (pss_one (ps_ret (pe_tup (pa_cons pe_str (pa_cons (pv 3) pa_nil))))) pss_nil)
  (pss_cons (ps_setLc (i := 10) (own := [("k", 9)]) (g := gName 9) rfl sc_law_fault.nd rfl rfl (sw_true rfl rfl rfl (by decide +kernel)) (pi_range1 (by rfl) T.b_range (pa_cons (pe_callB (x_len K) (by rfl) T.b_len (by decide +kernel) (pa_cons (pv 6) pa_nil)) pa_nil)) (blkOk_by (own := [("k", 9)]) (N := N_law_fault) (sc := defScope s_law_fault) (by decide +kernel)) (fun _ _ _ _ _ => (pg_name (i := 9) sc_law_fault.nd rfl (Or.inl rfl))) (fun _ _ _ _ _ => (pts_one (PW.pt (pw_or (pt_cmpR (x_notIn K (by exact hu65 hr)) (pe_ix (x_ix K) (pv 6) (pv 9) (fun _ _ => rfl)) (pv 8) (by with_unfolding_all rfl)) (pw_or1 (pt_cmpR (x_in K (by exact hu65 hr)) (pe_ix (x_ix K) (pv 6) (pv 9) (fun _ _ => rfl)) (pe_slice (x_sl K) (pv 6) po_none (po_some (pv 9))) (by with_unfolding_all rfl))))))) (fun _ _ _ _ _ => (pv 9)))
  (pss_one (ps_if (PW.pt (pw_or (pt_cmpR op_gt (pe_callB (x_len K) (by rfl) T.b_len (by decide +kernel) (pa_cons (pv 6) pa_nil)) pe_int (nomark _)) (pw_or1 (pt_cmpR op_gt (pe_callB (x_len K) (by rfl) T.b_len (by decide +kernel) (pa_cons (pv 10) pa_nil)) pe_int (nomark _))))) (pss_one (ps_ret (pe_tup (pa_cons pe_str (pa_cons (pv 3) pa_nil))))) pss_nil))))))))))
  (pss_one (ps_ret pe_non)))), ?_⟩
    show WS _ _ [.val (.lst (es.map rowX)), .un, .un, .un, .un, .un, .un, .un, .un, .un, .un] n _
    refine ws_cut2 (Nx := fun n1 ρ1 => n1 = n ∧ es.length ≤ 12 ∧ ρ1 = [.val (.lst (es.map rowX)), .un, .un, .un, .un, .un, .un, .un, .un, .un, .un]) ?_ ?_
    · refine ws_if ?_
      walk_at "go"
      rw [List.length_map]
      refine dec2 (fun h1 => ?_) (fun h1 => ?_)
      · walk_at "ws1"
        walk_at "go"
        refine ⟨Nat.le_of_ble_eq_true rfl, ?_⟩
        rw [faultD_yes (if_pos (by omega))] at kk
        exact kk
      · walk_at "ws1"
        exact ⟨rfl, by omega, rfl⟩
    rintro n1 ρ1 ⟨rfl, h12, rfl⟩
    have hfs : faults es = firstF [] es := if_neg (by omega)
    walk_at "ws1"
    refine ws_for ?_
    walk_at "go"
    refine ⟨fun i m ρ => m = n1 ∧ firstF [] es = firstF (nmsOf (es.take i)) (es.drop i) ∧ (∀ e ∈ es.take i, ∃ z, e.nm = .str z) ∧ ∃ x1 x2 x3 x4 x5 x6 x7 x8 x9 x10, ρ = [.val (.lst (es.map rowX)), x1, x2, x3, x4, x5, x6, x7, x8, x9, x10], ⟨rfl, rfl, (fun e he => nomatch he), _, _, _, _, _, _, _, _, _, _, rfl⟩, ?_, ?_⟩
    · rintro i m ρ1 d hdd ⟨rfl, hF, hz, x1, x2, x3, x4, x5, x6, x7, x8, x9, x10, rfl⟩
      obtain ⟨d1, hd1, rfl⟩ := enumD_get hdd
      obtain ⟨e, hee, rfl, hm, tk⟩ := map_at hd1
      have hi : i < es.length := (List.getElem?_eq_some_iff.mp hee).1
      have de := hd e hm
      have we := de.lk
      have el12 : (nmsOf (es.take i)).length ≤ 12 := by unfold nmsOf; rw [List.length_map, List.length_take]; omega
      have hf : ∀ x ∈ nmsOf (es.take i), fit (.str x) = true := fun x hx => by
        obtain ⟨e', he', rfl⟩ := List.mem_map.mp hx
        obtain ⟨z, ez⟩ := hz e' he'
        have := (hd e' (List.mem_of_mem_take he')).lk.fn
        rw [ez] at this ⊢
        exact this
      rw [drop_at hee] at hF
      have hz0 : (0 : Int) + (i : Nat) = (i : Nat) := by omega
      rw [hz0]
      generalize hel : nmsOf (es.take i) = el at *
      have no : ∀ {x : Str}, faultOf el e = some x → Φ m (.tup [.str x, e.nm]) := fun {x} h => by
        rw [firstF_yes h] at hF
        rw [faultD_yes (hfs.trans hF)] at kk
        exact kk
      walk_at "go"
      refine ws_seq (ws_asg ?_)
      walk_at "we1"
      refine wg_seqU (ds := [e.nm, e.en, e.kd, .lst e.ns]) rfl rfl ?_
      walk_at "go"
      refine ws_seq ?_
      show WS _ _ [.val (.lst (es.map rowX)), .val (.int i), .val (rowX e), .val e.nm, .val e.en, .val e.kd, .val (.lst e.ns), x7, x8, x9, x10] m _
      refine ws_set (wf_we (wf_map hd0 (fun _ => true) (wi_seq ?_)))
      walk_at "go"
      rw [cut_to (by rw [List.length_map]; omega), ← List.map_take]
      refine ⟨by rw [List.length_map, List.length_take]; omega, fun d hd2 m2 => ?_, ?_⟩
      · obtain ⟨e', _, rfl⟩ := List.mem_map.mp hd2
        walk_at "go"
        refine ⟨rfl, rfl, fun _ => ?_⟩
        walk_at "go"
        exact ⟨rfl, rfl⟩
      rw [filt_all, List.map_map]
      have e1 : (es.take i).map (hd0 ∘ rowX) = el.map .str := by
        rw [← hel, ← strs_back hz]; rfl
      rw [e1]
      walk_at "ws1"
      refine ws_if ?_
      walk_at "go"
      refine ⟨we.tn, ?_⟩
      refine ⟨_, rfl, booN (fun g1 => ?_) (fun g1 => ?_)⟩
      · walk_at "ws1"
        walk_at "go"
        refine ⟨Nat.le_of_ble_eq_true rfl, no (if_pos g1)⟩
      have g1' : ¬ nameD e.nm = false := by rw [g1]; exact Bool.noConfusion
      walk_at "ws1"
      walk_at "ws1"
      refine ws_if ?_
      walk_at "go"
      refine r2_in rfl we.fn (fit_strs hf) ?_
      refine ⟨_, rfl, boo2 (fun h1 => ?_) (fun h1 => ?_)⟩
      · walk_at "ws1"
        walk_at "go"
        refine ⟨Nat.le_of_ble_eq_true rfl, no ((if_neg g1').trans (if_pos h1))⟩
      have h1' : ¬ inD e.nm (el.map .str) = true := by rw [h1]; exact Bool.false_ne_true
      walk_at "ws1"
      refine ws_cut2 (Nx := fun n2 ρ1 => n2 = m ∧ okEnd e.en = true ∧ ρ1 = [.val (.lst (es.map rowX)), .val (.int i), .val (rowX e), .val e.nm, .val e.en, .val e.kd, .val (.lst e.ns), x7, .val (.lst (el.map .str)), x9, x10]) ?_ ?_
      · have bad : ∀ {n' : Nat} {ρ' : List SD} {Nx : Nat → List SD → Prop}, n' = m → okEnd e.en = false → Φ n' (.tup [.str "end", e.nm]) := fun q1 q2 => by
          rw [q1]; exact no ((if_neg g1').trans ((if_neg h1').trans (if_pos q2)))
        refine ws_if ?_
        walk_at "go"
        refine we_ty ?_
        walk_at "go"
        have hte := enB_t de.en
        generalize e.en = en at hte bad
        cases en with
        | bl b =>
          refine rc_isi (T := "bool") (b := true) rfl (by decide +kernel) ⟨_, rfl, itT rfl (itT rfl ?_)⟩
          walk_at "ws1"
          walk_at "go"
          exact ⟨Nat.le_of_ble_eq_true rfl, bad (ρ' := []) (Nx := fun _ _ => True) rfl rfl⟩
        | int k =>
          refine rc_isi (T := "int") (b := false) rfl (by decide +kernel) ⟨_, rfl, itF rfl ?_⟩
          walk_at "go"
          refine we_ty ?_
          walk_at "go"
          refine rc_isi (T := "int") (b := true) rfl (by decide +kernel) ⟨_, rfl, itF rfl ?_⟩
          walk_at "go"
          refine dec2 (fun h2 => ?_) (fun h2 => ?_)
          · refine itT rfl ?_
            walk_at "ws1"
            walk_at "go"
            exact ⟨Nat.le_of_ble_eq_true rfl, bad (ρ' := []) (Nx := fun _ _ => True) rfl (by show (decide (1 ≤ k) && _) = false; rw [decide_eq_false (by omega)]; rfl)⟩
          walk_at "go"
          refine dec2 (fun h3 => ?_) (fun h3 => ?_)
          · walk_at "ws1"
            walk_at "go"
            exact ⟨Nat.le_of_ble_eq_true rfl, bad (ρ' := []) (Nx := fun _ _ => True) rfl (by show (_ && decide (k ≤ 5)) = false; rw [decide_eq_false (by omega : ¬ k ≤ 5), Bool.and_false])⟩
          walk_at "ws1"
          exact ⟨rfl, by show (decide (1 ≤ k) && decide (k ≤ 5)) = true; rw [decide_eq_true (by omega), decide_eq_true (by omega)]; rfl, rfl⟩
        | non =>
          refine rc_isi (T := "NoneType") (b := false) rfl (by decide +kernel) ⟨_, rfl, itF rfl ?_⟩
          walk_at "go"
          refine we_ty ?_
          walk_at "go"
          refine rc_isi (T := "NoneType") (b := false) rfl (by decide +kernel) ⟨_, rfl, itT rfl (itT rfl ?_)⟩
          walk_at "ws1"
          walk_at "go"
          exact ⟨Nat.le_of_ble_eq_true rfl, bad (ρ' := []) (Nx := fun _ _ => True) rfl rfl⟩
        | str z =>
          refine rc_isi (T := "str") (b := false) rfl (by decide +kernel) ⟨_, rfl, itF rfl ?_⟩
          walk_at "go"
          refine we_ty ?_
          walk_at "go"
          refine rc_isi (T := "str") (b := false) rfl (by decide +kernel) ⟨_, rfl, itT rfl (itT rfl ?_)⟩
          walk_at "ws1"
          walk_at "go"
          exact ⟨Nat.le_of_ble_eq_true rfl, bad (ρ' := []) (Nx := fun _ _ => True) rfl rfl⟩
        | lst xs =>
          refine rc_isi (T := "list") (b := false) rfl (by decide +kernel) ⟨_, rfl, itF rfl ?_⟩
          walk_at "go"
          refine we_ty ?_
          walk_at "go"
          refine rc_isi (T := "list") (b := false) rfl (by decide +kernel) ⟨_, rfl, itT rfl (itT rfl ?_)⟩
          walk_at "ws1"
          walk_at "go"
          exact ⟨Nat.le_of_ble_eq_true rfl, bad (ρ' := []) (Nx := fun _ _ => True) rfl rfl⟩
        | tup xs =>
          refine rc_isi (T := "tuple") (b := false) rfl (by decide +kernel) ⟨_, rfl, itF rfl ?_⟩
          walk_at "go"
          refine we_ty ?_
          walk_at "go"
          refine rc_isi (T := "tuple") (b := false) rfl (by decide +kernel) ⟨_, rfl, itT rfl (itT rfl ?_)⟩
          walk_at "ws1"
          walk_at "go"
          exact ⟨Nat.le_of_ble_eq_true rfl, bad (ρ' := []) (Nx := fun _ _ => True) rfl rfl⟩
        | _ => cases hte
      rintro n2 ρ1 ⟨rfl, hen, rfl⟩
      have he : ¬ okEnd e.en = false := by rw [hen]; exact Bool.noConfusion
      walk_at "ws1"
      refine ws_if ?_
      walk_at "go"
      refine ⟨Nat.le_of_ble_eq_true rfl, ?_⟩
      refine r2_notIn (ds := kinds2) rfl we.fk fit_kinds ?_
      refine ⟨_, rfl, booN (fun h4 => ?_) (fun h4 => ?_)⟩
      · walk_at "ws1"
        walk_at "go"
        refine ⟨Nat.le_of_ble_eq_true rfl, no ((if_neg g1').trans ((if_neg h1').trans ((if_neg he).trans (if_pos h4))))⟩
      have h4' : ¬ inD e.kd kinds2 = false := by rw [h4]; exact Bool.noConfusion
      walk_at "ws1"
      walk_at "ws1"
      refine ws_set (wf_we (wf_map id (badD el e.ns) ?_))
      walk_at "go"
      have hle := de.le
      refine ⟨by omega, by omega, ?_⟩
      have hcn : ((e.ns.length : Nat) : Int).toNat = e.ns.length := by omega
      rw [hcn]
      refine ⟨by rw [rangeD_len]; omega, fun d hd3 m2 => ?_, ?_⟩
      · obtain ⟨k, hk⟩ := List.mem_iff_getElem?.mp hd3
        obtain ⟨hkl, rfl⟩ := rangeD_get hk
        have e0 : (0 : Int) + (k : Int) = (k : Int) := by omega
        rw [e0]
        have hnk : e.ns[k]? = some e.ns[k] := List.getElem?_eq_getElem hkl
        have hxe := de.ns _ (List.getElem_mem hkl)
        have hb : badD el e.ns (.int (k : Int)) = (!inD e.ns[k] (el.map .str) || inD e.ns[k] (e.ns.take k)) := by
          show badAt el e.ns ((k : Int).toNat) = _
          rw [Int.toNat_natCast]
          unfold badAt
          rw [hnk]
          show (isDct e.ns[k] || _ || _) = _
          rw [enB_nd hxe, Bool.false_or]
        generalize e.ns[k] = x at hnk hxe hb
        walk_at "go"
        refine r2_ix (ixD_nat hnk) ?_
        walk_at "go"
        refine r2_notIn rfl (enB_f hxe) (fit_strs hf) ?_
        refine ⟨_, rfl, booN (fun h5 => ?_) (fun h5 => ?_)⟩
        · refine ⟨rfl, by rw [hb, h5]; rfl, fun _ => ?_⟩
          walk_at "go"
          exact ⟨rfl, rfl⟩
        · walk_at "go"
          refine r2_ix (ixD_nat hnk) ?_
          walk_at "go"
          rw [cut_to (by omega)]
          refine r2_in rfl (enB_f hxe) (enB_fits fun y hy => de.ns y (List.mem_of_mem_take hy)) ?_
          refine ⟨_, rfl, rfl, by rw [hb, h5]; rfl, fun _ => ?_⟩
          walk_at "go"
          exact ⟨rfl, rfl⟩
      walk_at "ws1"
      walk_at "go"
      refine dec2 (fun h5 => ?_) (fun h5 => ?_)
      · refine itT rfl ?_
        walk_at "ws1"
        walk_at "go"
        refine ⟨Nat.le_of_ble_eq_true rfl, no ((if_neg g1').trans ((if_neg h1').trans ((if_neg he).trans ((if_neg h4').trans (if_pos (.inl (by omega)))))))⟩
      walk_at "go"
      rw [List.length_map]
      have hbl := badD_len el e.ns
      refine dec2 (fun h6 => ?_) (fun h6 => ?_)
      · walk_at "ws1"
        walk_at "go"
        refine ⟨Nat.le_of_ble_eq_true rfl, no ((if_neg g1').trans ((if_neg h1').trans ((if_neg he).trans ((if_neg h4').trans (if_pos (.inr ?_))))))⟩
        cases q : anyBad el e.ns with
        | true => rfl
        | false => have := hbl.mpr q; omega
      · walk_at "ws1"
        have q : anyBad el e.ns = false := hbl.mp (by omega)
        have hno : faultOf el e = none := (if_neg g1').trans ((if_neg h1').trans ((if_neg he).trans ((if_neg h4').trans (if_neg fun z => z.elim (fun y => by omega) fun y => by rw [q] at y; cases y))))
        obtain ⟨z, ez⟩ := fault_name hno
        rw [firstF_no hno] at hF
        refine ⟨rfl, ?_, fun e' he' => ?_, _, _, _, _, _, _, _, _, _, _, rfl⟩
        · rw [hF, tk, ← hel]; unfold nmsOf; rw [List.map_append]; rfl
        · rw [tk] at he'
          rcases List.mem_append.mp he' with y | y
          · exact hz e' y
          · rw [List.mem_singleton.mp y]; exact ⟨z, ez⟩
    · rintro m ρ1 ⟨rfl, hF, hz, x1, x2, x3, x4, x5, x6, x7, x8, x9, x10, rfl⟩
      rw [enumD_len, List.length_map, List.drop_length] at hF
      walk_at "ws1"
      walk_at "go"
      rw [faultD_no (hfs.trans hF)] at kk
      exact kk
/-! the second bag -/
theorem lst3_go {te : TE} {σ : L2.St} {H : Hp} {Dn : Ends} {a b : V} (h : te σ H fun x H1 => [x, a, b].length ≤ sizeLine ∧ ∀ p, H1 p = none → Dn.rt (.ref p) (upd H1 p (.lst [x, a, b]))) : tRet (tLst (tCons te (tCons (tC a) (tCons (tC b) tNil)))) Dn σ H := h
abbrev s_law_last_first : Stmt := top 27
abbrev N_law_last_first : List Str := ["bag", "cells", "at"]
theorem sc_law_last_first : FnScope N_law_last_first ["bag"] (defScope s_law_last_first) := ⟨rfl, rfl, rfl, by decide +kernel, rfl, by decide +kernel, by decide +kernel⟩

theorem ok_lastfirst {f : Addr} {fd : FuncData} (F : Fun K "_law_last_first" "_law_last_first" s_law_last_first f fd) (T : Txt mg) : FnOk P w K mg base CX0 1 f fd ["bag"] spNewBag := by
  refine F.ok sc_law_last_first (fun vs H Q E h => ?_) (fun cdv A outer s H vs Q E hr h => ?_)
  · obtain ⟨b, q, n, rfl, _⟩ := h
    rfl
  · obtain ⟨b, q, n, rfl, hB, k⟩ := h
    obtain ⟨t, r, cs, h1, h2, hne, hpos, hlen, _⟩ := hB
    refine ⟨_, (pss_cons (ps_set (i := 1) sc_law_last_first.nd rfl (Or.inr rfl) (pe_ix (x_ix K) (pv 0) pe_int (fun _ _ => rfl)))
  (pss_one (ps_ret (pe_lst (pa_cons (pe_lc (own := [("at", 2)]) (g := gName 2) (tt := tYes) rfl sc_law_last_first.nd (pi_range1 (by rfl) T.b_range (pa_cons (pe_callB (x_len K) (by rfl) T.b_len (by decide +kernel) (pa_cons (pv 1) pa_nil)) pa_nil)) (blkOk_by (own := [("at", 2)]) (N := N_law_last_first) (sc := defScope s_law_last_first) (by decide +kernel)) (fun _ _ _ _ _ => (pg_name (i := 2) sc_law_last_first.nd rfl (Or.inl rfl))) (fun _ _ _ _ _ => pts_nil) (fun _ _ _ _ _ => (pe_ix (x_ix K) (pv 1) (pe_op op_sub (pe_op op_sub (pe_callB (x_len K) (by rfl) T.b_len (by decide +kernel) (pa_cons (pv 1) pa_nil)) pe_int) (pv 2)) (fun _ _ => rfl)))) (pa_cons pe_int (pa_cons pe_int pa_nil))))))), ?_⟩
    refine st_seq ?_
    refine' (?W1 : WS ⟨P, w, K, [], none, H⟩ _ [.val (.lst [.lst (cs.map .int), .int t, .int r]), .un, .un] 0 { nx := fun n1 ρ1 => n1 = 0 ∧ ρ1 = [.val (.lst [.lst (cs.map .int), .int t, .int r]), .val (.lst (cs.map .int)), .un], rt := fun _ _ => False }) (fun _ => none) [] _ H _ ?E1 ?A1
    case E1 =>
      have r0 : Rp K (hid ([] ++ []) H) (.ref b) (.lst [.lst (cs.map .int), .int t, .int r]) := by
        rw [List.append_nil, hid_nil]
        exact .lst (.inl h1) (.cons (.lst (.inl h2) (RpAll.ofInts cs)) (.cons (.int t) (.cons (.int r) .nil)))
      exact { nd := List.nodup_nil, fresh := (fun l hl => nomatch hl), slots := ⟨[], .val r0 (.un (.un .nil)), List.Sublist.refl _⟩, lst := (fun l hl => nomatch hl), bag := (fun b q e => nomatch e), base := Same.refl _,
              pers := (fun _ _ e => nomatch e), bO := (fun b q e => nomatch e), al := (fun o ho => nomatch ho) }
    case W1 =>
      walk_at "ws1"
      walk_at "go"
      exact ⟨rfl, rfl⟩
    refine { nx := fun L n1 H1 σ1 ρ1 E1 ⟨e0, e⟩ => ?_, rt := fun _ _ _ _ _ _ _ h => h.elim, bk := fun _ _ _ _ _ _ h => h.elim, ct := fun _ _ _ _ _ _ h => h.elim }
    subst e0; subst e
    dsimp only
    have s1 : Same H H1 := by
      have z : Same (hid [] H) (hid [] H1) := E1.base
      rw [hid_nil, hid_nil] at z
      exact z
    refine lst3_go ?_
    refine' (?W2 : WF ⟨P, w, K, [], none, H⟩ _ [.val (.lst [.lst (cs.map .int), .int t, .int r]), .val (.lst (cs.map .int)), .un] 0 fun n2 ds => ∃ es : List Int, ds = es.map .int ∧ es.length = cs.length ∧ ∀ e ∈ es, e ∈ cs) _ L σ1 H1 _ E1 ?_
    case W2 =>
      refine wf_lc ?_
      walk_at "go"
      rw [List.length_map]
      refine ⟨by omega, by omega, ?_⟩
      have hcn : ((cs.length : Nat) : Int).toNat = cs.length := by omega
      rw [hcn]
      refine ⟨fun k m1 acc => m1 = 0 ∧ ∃ es : List Int, acc = es.map .int ∧ es.length = k ∧ ∀ e ∈ es, e ∈ cs, ⟨rfl, [], rfl, rfl, fun e he => nomatch he⟩, fun k m1 acc d hd ⟨e1, es, e2, e3, e4⟩ => ?_, fun m1 acc ⟨e1, es, e2, e3, e4⟩ => ?_⟩
      · subst e1; subst e2
        obtain ⟨hk, rfl⟩ := rangeD_get hd
        have hj : cs.length - 1 - k < cs.length := by omega
        walk_at "go"
        refine itT rfl ?_
        walk_at "go"
        rw [List.length_map]
        have e0 : ((cs.length : Nat) : Int) - 1 - (0 + (k : Int)) = ((cs.length - 1 - k : Nat) : Int) := by omega
        rw [e0]
        refine r2_ix (f := .int cs[cs.length - 1 - k]) (ixD_nat (by rw [List.getElem?_map, List.getElem?_eq_getElem hj]; rfl)) ?_
        refine ⟨by rw [List.length_map, sizeLine_eq]; omega, rfl, es ++ [cs[cs.length - 1 - k]], by rw [List.map_append]; rfl, by rw [List.length_append, e3]; rfl, fun e he => ?_⟩
        rcases List.mem_append.mp he with z | z
        · exact e4 e z
        · rw [List.mem_singleton.mp z]; exact List.getElem_mem hj
      · subst e1; subst e2
        rw [rangeD_len] at e3
        exact ⟨es, rfl, e3, e4⟩
    intro p xs ds n2 H2 s2 hp hp2 r2 j2 ⟨es, e2, e3, e4⟩
    subst e2
    have ex := r2.ints
    subst ex
    have s12 : Same H H2 := by
      have z : Same (hid [] H1) (hid [] H2) := s2
      rw [hid_nil, hid_nil] at z
      exact s1.trans z
    refine ⟨Nat.le_of_ble_eq_true rfl, fun p2 hp3 => ?_⟩
    have npl : p ≠ p2 := fun e => by rw [← e, hp2] at hp3; cases hp3
    have none_of : ∀ {a : Addr}, H2 a = none → H a = none := fun {a} h => by
      cases q : H a with
      | none => rfl
      | some o => rw [s12 a o q] at h; cases h
    have hpH : H p = none := by
      cases q : H p with
      | none => rfl
      | some o => rw [s1 p o q] at hp; cases hp
    have hes : es ≠ [] := fun q => by
      rw [q] at e3
      exact hne (List.eq_nil_of_length_eq_zero e3.symm)
    refine k p2 p _ (s12.trans (same_upd_new hp3)) (none_of hp3) hpH npl ⟨0, 0, es, upd_same, by rw [upd_ne npl]; exact hp2, hes, fun c hc => hpos c (e4 c hc), by omega, Int.le_refl _, Int.le_refl _, Int.le_refl _⟩

end
end Toy
namespace Toy
open PySem L2 L3
local macro_rules | `(tactic| walk_at "we1") => `(tactic| first
  | ((with_reducible refine' we_var ?hv ?_); (case hv => rfl))
  | (with_reducible refine we_int ?_)
  | (with_reducible refine we_str ?_)
  | (with_reducible refine we_bl ?_)
  | (with_reducible refine we_non ?_)
  | ((with_reducible refine' we_dix ?hv ?_); (case hv => rfl))
  | (with_reducible refine we_op ?_)
  | ((with_reducible refine' we_dget ?hv ?_); (case hv => rfl))
  | (with_reducible refine we_count ?_)
  | (with_reducible refine we_cb ?_)
  | (with_reducible refine we_call0 ?_)
  | (with_reducible refine we_tup ?_)
  | (with_reducible refine we_lst ?_)
  | (with_reducible refine we_if ?_)
  | (with_reducible refine we_not ?_)
  | (with_reducible refine we_and ?_)
  | (with_reducible refine we_or ?_)
  | (with_reducible refine we_isN ?_)
  | (with_reducible refine we_notN ?_)
  | (with_reducible refine we_sl ?_)
  | (with_reducible refine wa_cons ?_)
  | (with_reducible refine wa_nil ?_)
  | (with_reducible refine wt_test ?_)
  | (with_reducible refine wt_B ?_)
  | (with_reducible refine wt_and ?_)
  | (with_reducible refine wt_or ?_)
  | (with_reducible refine wt_not ?_)
  | (with_reducible refine wt_yes ?_)
  | (with_reducible refine wo_none ?_)
  | (with_reducible refine wo_some ?_)
  | ((with_reducible refine' r2_ix ?hx ?_); (case hx => rfl))
  | (with_reducible refine r2_isN ?_)
  | (with_reducible refine r2_notN ?_)
  | (with_reducible refine r2_lt ?_)
  | (with_reducible refine r2_le ?_)
  | (with_reducible refine r2_gt ?_)
  | (with_reducible refine r2_ge ?_)
  | (with_reducible refine r2_sub ?_)
  | (with_reducible refine r2_addI ?_)
  | (with_reducible refine r2_eqI ?_)
  | (with_reducible refine r2_neI ?_)
  | (with_reducible refine rc_int ?_)
  | (with_reducible refine rc_abs ?_)
  | ((with_reducible refine' rc_len ?hl ?_); (case hl => rfl))
  | (with_reducible refine wi_seq ?_)
  | (with_reducible refine wi_rng1 ?_)
  | (with_reducible refine wi_rng2 ?_)
  | (with_reducible refine wi_enum ?_)
  | (refine ⟨_, rfl, ?_⟩))
local macro_rules | `(tactic| walk_at "ws1") => `(tactic| first
  | (with_reducible refine ws_seq ?_)
  | (with_reducible refine ws_set ?_)
  | (with_reducible refine ws_ret ?_)
  | (with_reducible refine ws_if ?_)
  | (with_reducible refine ws_next ?_)
  | (with_reducible refine ws_asg ?_))
local macro_rules | `(tactic| walk_at "wg1") => `(tactic| first
  | (with_reducible refine wg_name (rw_name (by decide)) ?_)
  | (with_reducible refine wg_name (fun _ _ => trivial) ?_)
  | ((with_reducible refine' wg_tup ?hl ?_); (case hl => rfl))
  | (with_reducible refine wgs_cons rw_trans ?_)
  | (with_reducible refine wgs_nil rw_refl ?_)
  | (with_reducible refine wgs_cons (fun _ _ _ _ _ => trivial) ?_)
  | (with_reducible refine wgs_nil (fun _ => trivial) ?_))
local macro_rules | `(tactic| walk_at "go") => `(tactic| repeat' (first | walk_at "we1" | walk_at "wg1"))
section
variable {P : Program} {w : World} {K : PySem.W.Frag} {mg : Str → Option Value} {base : Heap}
/-! an order's word -/
def wordD (es : List Evx) : D := match faults es with
  | some (w, x) => .tup [.str w, x]
  | none => .tup [.str "let", .int es.length]
theorem wordD_no {es : List Evx} (h : faults es = none) : wordD es = .tup [.str "let", .int es.length] := by unfold wordD; rw [h]
theorem wordD_yes {es : List Evx} {w : Str} {x : D} (h : faults es = some (w, x)) : wordD es = .tup [.str w, x] := by unfold wordD; rw [h]
def spWord (CE : Addr) : L3.Spec := fun bag n ds Φ => ∃ es : List Evx, ds = [.lst (es.map (evD CE))] ∧ es.length ≤ 14 ∧ (∀ e ∈ es, Lk e ∧ e.ns.length ≤ 1000) ∧ Φ n (wordD es)
abbrev s_law_order_word : Stmt := top 28
abbrev N_law_order_word : List Str := ["events", "order", "e"]
theorem sc_law_order_word : FnScope N_law_order_word ["events"] (defScope s_law_order_word) := ⟨rfl, rfl, rfl, by decide +kernel, rfl, by decide +kernel, by decide +kernel⟩

theorem ok_word {f CO CE : Addr} {fd : FuncData} (F : Fun K "_law_order_word" "_law_order_word" s_law_order_word f fd) (T : Txt mg) (X_BadOrder : Xn P w K mg base "BadOrder" ["what", "name"]) (R_Order : Mnx P w K mg base CO "Order" 3 ["self", "events"] [] [] (spOrderX X_BadOrder.C CE)) (N_Order : Ln P w K mg base CO 1 ["self"] (spLenO CO CE)) : FnOk P w K mg base CX0 5 f fd ["events"] (spD K (spWord CE)) := by
  refine fn_D F sc_law_order_word (fun bag n ds Φ h => ?_) (fun cdv A outer s H Ex O bag n ds Φ hr h => ?_)
  · obtain ⟨es, e, _⟩ := h
    rw [e]; rfl
  · obtain ⟨es, e, h14, hw, kk⟩ := h
    subst e
    refine ⟨_, (pss_cons (ps_try (i := 2) rfl rfl sc_law_order_word.nd rfl rfl ⟨rfl, by decide, Or.inl X_BadOrder.m⟩ takes0
 (fun W pn xe tk po => (pss_one (ps_set (i := 1) sc_law_order_word.nd rfl (Or.inl rfl) (pe_makeSD R_Order.M R_Order.G (hr.mono (by decide)) (by rfl) R_Order.m R_Order.b R_Order.v (fun σ => passAt tk σ) (pa_cons (pv 0) pa_nil)))))
 (fun a oe cls d pn hz hf => (pss_one (ps_ret (pe_tup (pa_cons (pe_xf X_BadOrder.xf (X_BadOrder.no _ (by decide)) hz hf (pv 2)) (pa_cons (pe_xf X_BadOrder.xf (X_BadOrder.no _ (by decide)) hz hf (pv 2)) pa_nil)))))))
  (pss_one (ps_ret (pe_tup (pa_cons pe_str (pa_cons (pe_callB (call_lenO N_Order.G N_Order.hs N_Order.hf (hr.mono (by decide)) N_Order.b pass0) (by rfl) T.b_len (by decide +kernel) (pa_cons (pv 1) pa_nil)) pa_nil)))))), ?_⟩
    show WS _ _ [.val (.lst (es.map (evD CE))), .un, .un] n _
    refine ws_cut2 (Nx := fun n1 ρ1 => n1 = n ∧ faults es = none ∧ ρ1 = [.val (.lst (es.map (evD CE))), .val (ordD CO CE es), .un]) ?_ ?_
    · refine ws_try (Ξ := fun n' ρ' CC ks => n' = n ∧ ρ' = [.val (.lst (es.map (evD CE))), .un, .un] ∧ CC = X_BadOrder.C ∧ ∃ w x, faults es = some (w, x) ∧ ks = xOrd w x) (fun O' H0' W hW => ?_) (fun n' ρ' CC ks h => ?_)
      · show WS _ _ [.val (.lst (es.map (evD CE))), .un, .un] n _
        refine ws_set (we_makeSD hW (dds := []) (fun _ => .nil) ?_)
        walk_at "go"
        exact ⟨true, es, rfl, h14, hw, fun h => ⟨rfl, h, rfl⟩, fun w x h => ⟨rfl, rfl, rfl, w, x, h, rfl⟩⟩
      · obtain ⟨rfl, rfl, rfl, w0, x0, hx, rfl⟩ := h
        refine ⟨X_BadOrder.te, fun O' H0' dx a hd => ?_⟩
        rw [wordD_yes hx] at kk
        refine ws_ret (we_tup (wa_cons (we_xf hd ?_)))
        walk_at "we1"
        refine ⟨rfl, _, rfl, ?_⟩
        refine wa_cons (we_xf hd ?_)
        walk_at "we1"
        refine ⟨rfl, _, rfl, ?_⟩
        exact wa_nil ⟨Nat.le_of_ble_eq_true rfl, kk⟩
    rintro n1 ρ1 ⟨rfl, hF, rfl⟩
    rw [wordD_no hF] at kk
    refine ws_ret (we_tup ?_)
    walk_at "go"
    refine rc_lenO ⟨es, rfl, es.length, rfl, by omega, ?_⟩
    exact wa_nil ⟨Nat.le_of_ble_eq_true rfl, kk⟩
/-! odd needs -/
def oddB (d : D) : Bool := isDct d || (fit d && decide ((dpy d).depth ≤ 60) && !inD d [.str "a"])
theorem odd_at {r : Int} (h0 : 0 ≤ r) (h1 : r < 7) : ∃ d, ixD (.lst [.lst [.str "a"], .dct [], .int 7, .tup [], .non, .tup [.str "a"], .bl true]) r = some d ∧ oddB d = true := by
  obtain rfl | rfl | rfl | rfl | rfl | rfl | rfl : r = 0 ∨ r = 1 ∨ r = 2 ∨ r = 3 ∨ r = 4 ∨ r = 5 ∨ r = 6 := by omega
  all_goals exact ⟨_, rfl, by decide +kernel⟩
theorem odd_nd {d : D} (h : oddB d = true) : (fit d = true ∧ (dpy d).depth ≤ 60) ∨ ∃ kvs, d = .dct kvs := by
  unfold oddB at h
  rcases Bool.or_eq_true_iff.mp h with z | z
  · cases d with
    | dct kvs => exact .inr ⟨kvs, rfl⟩
    | _ => cases z
  · rw [Bool.and_eq_true, Bool.and_eq_true] at z
    exact .inl ⟨z.1.1, of_decide_eq_true z.1.2⟩
theorem odd_bad {d : D} {ns : List D} {j : Nat} (h : oddB d = true) (hj : ns[j]? = some d) : badAt ["a"] ns j = true := by
  unfold badAt
  rw [hj]
  show (isDct d || !inD d [.str "a"] || inD d (ns.take j)) = true
  unfold oddB at h
  rcases Bool.or_eq_true_iff.mp h with z | z
  · rw [z]; rfl
  · rw [Bool.and_eq_true] at z
    rw [z.2, Bool.or_true]; rfl
def evA (a : Int) : Evx := ⟨.str "a", .int (1 + a), .str "query", []⟩
def evB (ns : List D) : Evx := ⟨.str "b", .int 1, .str "action", ns⟩
theorem evA_ok {a : Int} (h0 : 0 ≤ a) (h5 : a < 5) : faultOf [] (evA a) = none := by
  unfold faultOf
  have g1 : ¬ nameD (evA a).nm = false := by show ¬ nameD (.str "a") = false; decide +kernel
  have g2 : ¬ inD (evA a).nm (([] : List Str).map .str) = true := nofun
  have g3 : ¬ okEnd (evA a).en = false := by
    show ¬ (decide (1 ≤ 1 + a) && decide (1 + a ≤ 5)) = false
    rw [decide_eq_true (by omega), decide_eq_true (by omega)]; decide
  have g4 : ¬ inD (evA a).kd kinds2 = false := by show ¬ inD (.str "query") kinds2 = false; decide +kernel
  have g5 : ¬ (3 < (evA a).ns.length ∨ anyBad [] (evA a).ns = true) := by
    show ¬ (3 < 0 ∨ anyBad [] [] = true)
    decide +kernel
  rw [if_neg g1, if_neg g2, if_neg g3, if_neg g4, if_neg g5]
theorem evB_fault {ns : List D} {j : Nat} {d : D} (h : oddB d = true) (hj : ns[j]? = some d) : faultOf ["a"] (evB ns) = some ("needs" : Str) := by
  unfold faultOf
  have g1 : ¬ nameD (evB ns).nm = false := by show ¬ nameD (.str "b") = false; decide +kernel
  have g2 : ¬ inD (evB ns).nm ((["a"] : List Str).map .str) = true := by show ¬ inD (.str "b") [.str "a"] = true; decide +kernel
  have g3 : ¬ okEnd (evB ns).en = false := by show ¬ okEnd (.int 1) = false; decide
  have g4 : ¬ inD (evB ns).kd kinds2 = false := by show ¬ inD (.str "action") kinds2 = false; decide +kernel
  have g5 : 3 < (evB ns).ns.length ∨ anyBad ["a"] (evB ns).ns = true := .inr (anyBad_yes (List.getElem?_eq_some_iff.mp hj).1 (odd_bad h hj))
  rw [if_neg g1, if_neg g2, if_neg g3, if_neg g4, if_pos g5]
theorem evB_ok : faultOf ["a"] (evB [.str "a"]) = none := by decide +kernel
theorem two_yes {a : Int} {ns : List D} {j : Nat} {d : D} (h0 : 0 ≤ a) (h5 : a < 5) (h : oddB d = true) (hj : ns[j]? = some d) : wordD [evA a, evB ns] = .tup [.str "needs", .str "b"] := by
  refine wordD_yes ((if_neg (by show ¬ 12 < 2; decide)).trans ?_)
  rw [firstF_no (evA_ok h0 h5)]
  exact firstF_yes (evB_fault h hj)
theorem two_no {a : Int} (h0 : 0 ≤ a) (h5 : a < 5) : wordD [evA a, evB [.str "a"]] = .tup [.str "let", .int 2] := by
  refine wordD_no ((if_neg (by show ¬ 12 < 2; decide)).trans ?_)
  rw [firstF_no (evA_ok h0 h5)]
  exact firstF_no evB_ok
theorem lkA (a : Int) : Lk (evA a) := ⟨by show thg (.str "a") = true; decide +kernel, by show fit (.str "a") = true; decide +kernel, rfl, by show fit (.str "query") = true; decide +kernel, fun x hx => nomatch hx⟩
theorem lkB {ns : List D} (h : ∀ x ∈ ns, x = .str "a" ∨ oddB x = true) : Lk (evB ns) := ⟨by show thg (.str "b") = true; decide +kernel, by show fit (.str "b") = true; decide +kernel, rfl, by show fit (.str "action") = true; decide +kernel, fun x hx => by
  rcases h x hx with z | z
  · rw [z]; exact .inl ⟨by decide +kernel, by decide +kernel⟩
  · exact odd_nd z⟩
theorem odd3_at {d : D} (h : oddB d = true) {r : Int} (h0 : 0 ≤ r) (h1 : r < 3) : ∃ (ns : List D) (j : Nat), ixD (.lst [.tup [.str "a", d], .tup [d, .str "a"], .tup [d]]) r = some (.tup ns) ∧ ns[j]? = some d ∧ ns.length ≤ 1000 ∧ ∀ x ∈ ns, x = .str "a" ∨ oddB x = true := by
  obtain rfl | rfl | rfl : r = 0 ∨ r = 1 ∨ r = 2 := by omega
  · exact ⟨[.str "a", d], 1, rfl, rfl, by show 2 ≤ 1000; decide, fun x hx => by
      simp only [List.mem_cons, List.not_mem_nil, or_false] at hx
      rcases hx with rfl | rfl
      · exact .inl rfl
      · exact .inr h⟩
  · exact ⟨[d, .str "a"], 0, rfl, rfl, by show 2 ≤ 1000; decide, fun x hx => by
      simp only [List.mem_cons, List.not_mem_nil, or_false] at hx
      rcases hx with rfl | rfl
      · exact .inr h
      · exact .inl rfl⟩
  · exact ⟨[d], 0, rfl, rfl, by show 1 ≤ 1000; decide, fun x hx => by rw [List.mem_singleton.mp hx]; exact .inr h⟩
def spOdd : L3.Spec := fun bag n ds Φ => ∃ (b q : Addr), bag = some (b, q) ∧ ds = [.adr b] ∧ n + 10 < 2 ^ 60 ∧ ∀ n', Φ n' (.bl true)
abbrev s_law_odd_needs : Stmt := top 29
abbrev N_law_odd_needs : List Str := ["bag", "first", "need", "needs"]
theorem sc_law_odd_needs : FnScope N_law_odd_needs ["bag"] (defScope s_law_odd_needs) := ⟨rfl, rfl, rfl, by decide +kernel, rfl, by decide +kernel, by decide +kernel⟩

theorem ok_odd {f E0 CE : Addr} {fd : FuncData} {dw : List Value} (F : Fun K "_law_odd_needs" "_law_odd_needs" s_law_odd_needs f fd) (T : Txt mg) (hE0 : ∀ H, Rp K H (.ref E0) (.tup [])) (M_Event3 : Mn P w K mg base "Event" 1 ["self", "name", "end", "kind", "needs"] [.ref E0] dw spEvX) (M_Event4 : Mn P w K mg base "Event" 1 ["self", "name", "end", "kind", "needs"] [] [] spEvX) (e3 : M_Event3.C = CE) (e4 : M_Event4.C = CE)
    (D_law_draw : Dn P w K mg base "_law_draw" 1 ["bag", "limit"] [] [] spDraw) (D_law_order_word : Dn P w K mg base "_law_order_word" 5 ["events"] [] [] (spWord CE)) : FnOk P w K mg base CX0 6 f fd ["bag"] (spD K spOdd) := by
  refine fn_D F sc_law_odd_needs (fun bag n ds Φ h => ?_) (fun cdv A outer s H Ex O bag n ds Φ hr h => ?_)
  · obtain ⟨b, q, _, e, _⟩ := h
    rw [e]; rfl
  · obtain ⟨b, q, eb, e, hn, kk⟩ := h
    subst eb; subst e
    refine ⟨_, (pss_cons (ps_set (i := 1) sc_law_odd_needs.nd rfl (Or.inl rfl) (pe_make M_Event3.M M_Event3.G (hr.mono (by decide)) (by rfl) M_Event3.m M_Event3.b M_Event3.v pass0 (pa_cons pe_str (pa_cons (pe_op (x_add K) pe_int (pe_call D_law_draw.G (hr.mono (by decide)) (by rfl) D_law_draw.m D_law_draw.k D_law_draw.b D_law_draw.v pass0 (pa_cons (pv 0) (pa_cons pe_int pa_nil)))) (pa_cons pe_str pa_nil)))))
  (pss_cons (ps_set (i := 2) sc_law_odd_needs.nd rfl (Or.inl rfl) (pe_ix (x_ix K) (pe_lst (pa_cons (pe_lst (pa_cons pe_str pa_nil)) (pa_cons pe_dnewK (pa_cons pe_int (pa_cons (pe_tup pa_nil) (pa_cons pe_non (pa_cons (pe_tup (pa_cons pe_str pa_nil)) (pa_cons pe_bl pa_nil)))))))) (pe_call D_law_draw.G (hr.mono (by decide)) (by rfl) D_law_draw.m D_law_draw.k D_law_draw.b D_law_draw.v pass0 (pa_cons (pv 0) (pa_cons pe_int pa_nil))) (fun _ _ => rfl)))
  (pss_cons (ps_set (i := 3) sc_law_odd_needs.nd rfl (Or.inl rfl) (pe_ix (x_ix K) (pe_lst (pa_cons (pe_tup (pa_cons pe_str (pa_cons (pv 2) pa_nil))) (pa_cons (pe_tup (pa_cons (pv 2) (pa_cons pe_str pa_nil))) (pa_cons (pe_tup (pa_cons (pv 2) pa_nil)) pa_nil)))) (pe_call D_law_draw.G (hr.mono (by decide)) (by rfl) D_law_draw.m D_law_draw.k D_law_draw.b D_law_draw.v pass0 (pa_cons (pv 0) (pa_cons pe_int pa_nil))) (fun _ _ => rfl)))
  (pss_cons (ps_if (pt_cmpR (x_ne K (by exact hr.units)) (pe_call D_law_order_word.G (hr.mono (by decide)) (by rfl) D_law_order_word.m D_law_order_word.k D_law_order_word.b D_law_order_word.v pass0 (pa_cons (pe_lst (pa_cons (pv 1) (pa_cons (pe_make M_Event4.M M_Event4.G (hr.mono (by decide)) (by rfl) M_Event4.m M_Event4.b M_Event4.v pass0 (pa_cons pe_str (pa_cons pe_int (pa_cons pe_str (pa_cons (pv 3) pa_nil))))) pa_nil))) pa_nil)) (pe_tup (pa_cons pe_str (pa_cons pe_str pa_nil))) (nomark _)) (pss_one (ps_ret pe_bl)) pss_nil)
  (pss_one (ps_ret (pe_cmpR (x_eq K (by exact hr.units)) (pe_call D_law_order_word.G (hr.mono (by decide)) (by rfl) D_law_order_word.m D_law_order_word.k D_law_order_word.b D_law_order_word.v pass0 (pa_cons (pe_lst (pa_cons (pv 1) (pa_cons (pe_make M_Event4.M M_Event4.G (hr.mono (by decide)) (by rfl) M_Event4.m M_Event4.b M_Event4.v pass0 (pa_cons pe_str (pa_cons pe_int (pa_cons pe_str (pa_cons (pe_tup (pa_cons pe_str pa_nil)) pa_nil))))) pa_nil))) pa_nil)) (pe_tup (pa_cons pe_str (pa_cons pe_int pa_nil))) (nomark _)))))))), ?_⟩
    show WS _ _ [.val (.adr b), .un, .un, .un] n _
    refine ws_cut (fun n1 ρ1 => n1 = n + 1 ∧ ∃ a : Int, 0 ≤ a ∧ a < 5 ∧ ρ1 = [.val (.adr b), .val (evD CE (evA a)), .un, .un]) ?_ ?_
    · refine ws_set (we_make (dds := [.tup []]) (fun H => .cons (hE0 H) .nil) ?_)
      walk_at "go"
      refine ⟨b, q, 5, rfl, rfl, by decide, by decide, by omega, fun a h0 h5 => ?_⟩
      walk_at "go"
      refine ⟨false, evA a, rfl, rfl, a, h0, h5, ?_⟩
      rw [e3]
      exact rfl
    rintro n1 ρ1 ⟨rfl, a, ha0, ha5, rfl⟩
    refine ws_cut (fun n1 ρ1 => n1 = n + 2 ∧ ∃ d : D, oddB d = true ∧ ρ1 = [.val (.adr b), .val (evD CE (evA a)), .val d, .un]) ?_ ?_
    · refine ws_set (we_op (we_lst ?_))
      walk_at "go"
      refine ⟨Nat.le_of_ble_eq_true rfl, ?_⟩
      walk_at "go"
      refine we_dnewK ?_
      walk_at "go"
      refine ⟨Nat.le_of_ble_eq_true rfl, ?_⟩
      walk_at "go"
      refine ⟨Nat.le_of_ble_eq_true rfl, ?_⟩
      walk_at "go"
      refine ⟨Nat.le_of_ble_eq_true rfl, ?_⟩
      walk_at "go"
      refine ⟨b, q, 7, rfl, rfl, by decide, by decide, by omega, fun r h0 h5 => ?_⟩
      obtain ⟨d, hd, hB⟩ := odd_at h0 h5
      refine r2_ix hd ?_
      exact ⟨rfl, d, hB, rfl⟩
    rintro n1 ρ1 ⟨rfl, d, hB, rfl⟩
    refine ws_cut (fun n1 ρ1 => n1 = n + 3 ∧ ∃ (ns : List D) (j : Nat), ns[j]? = some d ∧ ns.length ≤ 1000 ∧ (∀ x ∈ ns, x = .str "a" ∨ oddB x = true) ∧ ρ1 = [.val (.adr b), .val (evD CE (evA a)), .val d, .val (.tup ns)]) ?_ ?_
    · refine ws_set (we_op (we_lst ?_))
      walk_at "go"
      refine ⟨Nat.le_of_ble_eq_true rfl, ?_⟩
      walk_at "go"
      refine ⟨Nat.le_of_ble_eq_true rfl, ?_⟩
      walk_at "go"
      refine ⟨Nat.le_of_ble_eq_true rfl, ?_⟩
      walk_at "go"
      refine ⟨Nat.le_of_ble_eq_true rfl, ?_⟩
      walk_at "go"
      refine ⟨b, q, 3, rfl, rfl, by decide, by decide, by omega, fun r h0 h5 => ?_⟩
      obtain ⟨ns, j, hix, hj, hl, hns⟩ := odd3_at hB h0 h5
      refine r2_ix hix ?_
      exact ⟨rfl, ns, j, hj, hl, hns, rfl⟩
    rintro n1 ρ1 ⟨rfl, ns, j, hj, hl, hns, rfl⟩
    have lks : ∀ ms : List D, ms.length ≤ 1000 → (∀ x ∈ ms, x = .str "a" ∨ oddB x = true) → ∀ e ∈ [evA a, evB ms], Lk e ∧ e.ns.length ≤ 1000 := fun ms h1 h2 e he => by
      simp only [List.mem_cons, List.not_mem_nil, or_false] at he
      rcases he with rfl | rfl
      · exact ⟨lkA a, Nat.zero_le _⟩
      · exact ⟨lkB h2, h1⟩
    refine ws_seq (ws_if ?_)
    refine wt_test (we_op (we_call0 (wa_cons (we_lst (wa_cons ?_)))))
    walk_at "we1"
    refine wa_cons (we_make (dds := []) (fun _ => .nil) ?_)
    walk_at "go"
    refine ⟨false, evB ns, rfl, ?_⟩
    rw [e4]
    refine wa_nil ⟨Nat.le_of_ble_eq_true rfl, ?_⟩
    refine wa_nil ⟨[evA a, evB ns], rfl, by show 2 ≤ 14; decide, lks ns hl hns, ?_⟩
    rw [two_yes ha0 ha5 hB hj]
    walk_at "go"
    refine ⟨Nat.le_of_ble_eq_true rfl, ?_⟩
    refine r2_neD (by decide +kernel) (by decide +kernel) ?_
    rw [L3.eq_self (by decide +kernel)]
    refine ⟨_, rfl, itF rfl ?_⟩
    walk_at "ws1"
    refine ws_ret (we_op (we_call0 (wa_cons (we_lst (wa_cons ?_)))))
    walk_at "we1"
    refine wa_cons (we_make (dds := []) (fun _ => .nil) ?_)
    walk_at "go"
    refine ⟨Nat.le_of_ble_eq_true rfl, ?_⟩
    walk_at "go"
    refine ⟨false, evB [.str "a"], rfl, ?_⟩
    refine wa_nil ⟨Nat.le_of_ble_eq_true rfl, ?_⟩
    refine wa_nil ⟨[evA a, evB [.str "a"]], rfl, by show 2 ≤ 14; decide, lks _ (by show 1 ≤ 1000; decide) (fun x hx => .inl (List.mem_singleton.mp hx)), ?_⟩
    rw [two_no ha0 ha5]
    walk_at "go"
    refine ⟨Nat.le_of_ble_eq_true rfl, ?_⟩
    refine r2_eqD (by decide +kernel) (by decide +kernel) ?_
    rw [L3.eq_self (by decide +kernel)]
    exact kk _
/-! errors as values -/
structure ErK (K : PySem.W.Frag) (C C0 : Addr) : Prop where
  er : ErC K C
  a : PySem.W.kitOne K (.ref C) (.ref C0) = some true
  v : PySem.W.kitOne K (.ref C) (.type "ValueError") = some true
def spErr : L3.Spec := fun bag n ds Φ => ds = [] ∧ Φ n (.bl true)
abbrev s_law_errors_right : Stmt := top 26
abbrev N_law_errors_right : List Str := ["error"]
theorem sc_law_errors_right : FnScope N_law_errors_right [] (defScope s_law_errors_right) := ⟨rfl, rfl, rfl, by decide +kernel, rfl, by decide +kernel, by decide +kernel⟩

theorem ok_errs {f C_AskedError : Addr} {fd : FuncData} (F : Fun K "_law_errors_right" "_law_errors_right" s_law_errors_right f fd) (T : Txt mg) (b_ValueError : mg "ValueError" = none) (gC_AskedError : mg "AskedError" = some (.ref C_AskedError)) (X_BadOrder : Xn P w K mg base "BadOrder" ["what", "name"]) (X_BadText : Xn P w K mg base "BadText" ["row"]) (X_BadWorld : Xn P w K mg base "BadWorld" ["what"])
    (kO : ErK K X_BadOrder.C C_AskedError) (kT : ErK K X_BadText.C C_AskedError) (kW : ErK K X_BadWorld.C C_AskedError) (nT : PySem.W.kitAny K (.ref X_BadText.C) [.ref X_BadOrder.C, .ref X_BadWorld.C] = some false) (nO : PySem.W.kitAny K (.ref X_BadOrder.C) [.ref X_BadText.C, .ref X_BadWorld.C] = some false) : FnOk P w K mg base CX0 3 f fd [] (spD K spErr) := by
  refine fn_D F sc_law_errors_right (fun bag n ds Φ h => ?_) (fun cdv A outer s H Ex O bag n ds Φ hr h => ?_)
  · rw [h.1]; rfl
  · obtain ⟨e, kk⟩ := h
    subst e
    refine ⟨_, (pss_cons (ps_for PassesOwn.never rfl (x_seq K (pe_tup (pa_cons (pe_mkE X_BadOrder.T X_BadOrder.iC X_BadOrder.tI X_BadOrder.G (hr.mono (by decide)) X_BadOrder.b pass0 (by rfl) X_BadOrder.m (pa_cons pe_str (pa_cons pe_str pa_nil))) (pa_cons (pe_mkE X_BadText.T X_BadText.iC X_BadText.tI X_BadText.G (hr.mono (by decide)) X_BadText.b pass0 (by rfl) X_BadText.m (pa_cons pe_int pa_nil)) (pa_cons (pe_mkE X_BadWorld.T X_BadWorld.iC X_BadWorld.tI X_BadWorld.G (hr.mono (by decide)) X_BadWorld.b pass0 (by rfl) X_BadWorld.m (pa_cons pe_str pa_nil)) pa_nil))))) (pg_name (i := 0) sc_law_errors_right.nd rfl (Or.inl rfl)) (pss_one (ps_if (PW.pt (pw_or (pt_not (pt_val (pe_callB (x_isX K) (by rfl) T.b_isinstance (by decide +kernel) (pa_cons (pv 0) (pa_cons (pe_glob (v := .ref C_AskedError) (by rfl) gC_AskedError rfl) pa_nil))))) (pw_or1 (pt_not (pt_val (pe_callB (x_isX K) (by rfl) T.b_isinstance (by decide +kernel) (pa_cons (pv 0) (pa_cons (pe_bltn (v := .ty "ValueError") (by rfl) b_ValueError (by decide +kernel) rfl) pa_nil)))))))) (pss_one (ps_ret pe_bl)) pss_nil)))
  (pss_cons (ps_if (PW.pt (pw_or (pt_val (pe_callB (x_isX K) (by rfl) T.b_isinstance (by decide +kernel) (pa_cons (pe_mkE X_BadText.T X_BadText.iC X_BadText.tI X_BadText.G (hr.mono (by decide)) X_BadText.b pass0 (by rfl) X_BadText.m (pa_cons pe_int pa_nil)) (pa_cons (pe_tup (pa_cons (pe_glob (v := .ref X_BadOrder.C) (by rfl) X_BadOrder.m rfl) (pa_cons (pe_glob (v := .ref X_BadWorld.C) (by rfl) X_BadWorld.m rfl) pa_nil))) pa_nil)))) (pw_or1 (pt_val (pe_callB (x_isX K) (by rfl) T.b_isinstance (by decide +kernel) (pa_cons (pe_mkE X_BadOrder.T X_BadOrder.iC X_BadOrder.tI X_BadOrder.G (hr.mono (by decide)) X_BadOrder.b pass0 (by rfl) X_BadOrder.m (pa_cons pe_str (pa_cons pe_str pa_nil))) (pa_cons (pe_tup (pa_cons (pe_glob (v := .ref X_BadText.C) (by rfl) X_BadText.m rfl) (pa_cons (pe_glob (v := .ref X_BadWorld.C) (by rfl) X_BadWorld.m rfl) pa_nil))) pa_nil))))))) (pss_one (ps_ret pe_bl)) pss_nil)
  (pss_cons (ps_set (i := 0) sc_law_errors_right.nd rfl (Or.inl rfl) (pe_mkE X_BadOrder.T X_BadOrder.iC X_BadOrder.tI X_BadOrder.G (hr.mono (by decide)) X_BadOrder.b pass0 (by rfl) X_BadOrder.m (pa_cons pe_int (pa_cons pe_non pa_nil))))
  (pss_one (ps_ret (pe_and (pe_cmpR (x_eq K (by exact hr.units)) (pe_xv (K := K) (pv 0)) pe_int (nomark _)) (pe_and (pe_cmpR op_isN1 (pe_xv (K := K) (pv 0)) pe_non (nomark _)) (pe_and (pe_cmpR (x_eq K (by exact hr.units)) (pe_xv (K := K) (pe_mkE X_BadText.T X_BadText.iC X_BadText.tI X_BadText.G (hr.mono (by decide)) X_BadText.b pass0 (by rfl) X_BadText.m (pa_cons pe_int pa_nil))) pe_int (nomark _)) (pe_one (pe_cmpR (x_eq K (by exact hr.units)) (pe_xv (K := K) (pe_mkE X_BadWorld.T X_BadWorld.iC X_BadWorld.tI X_BadWorld.G (hr.mono (by decide)) X_BadWorld.b pass0 (by rfl) X_BadWorld.m (pa_cons pe_str pa_nil))) pe_str (nomark _))))))))))), ?_⟩
    show WS _ _ [.un] n _
    refine ws_cut2 (Nx := fun n1 ρ1 => n1 = n ∧ ∃ x, ρ1 = [x]) ?_ ?_
    · refine ws_for (wi_seq (we_tup (wa_cons (we_mkE ?_))))
      walk_at "go"
      refine ⟨rfl, by decide, ?_⟩
      refine wa_cons (we_mkE ?_)
      walk_at "go"
      refine ⟨rfl, by decide, ?_⟩
      refine wa_cons (we_mkE ?_)
      walk_at "go"
      refine ⟨rfl, by decide, ?_⟩
      refine wa_nil ⟨Nat.le_of_ble_eq_true rfl, ?_⟩
      refine ⟨_, rfl, fun i m ρ => m = n ∧ ∃ x, ρ = [x], ⟨rfl, _, rfl⟩, ?_, ?_⟩
      · rintro i m ρ1 d hd ⟨rfl, x, rfl⟩
        have hE : ∃ C ks, d = .er C ks ∧ ErK K C C_AskedError := by
          have hm := List.mem_of_getElem? hd
          simp only [List.mem_cons, List.not_mem_nil, or_false] at hm
          rcases hm with rfl | rfl | rfl
          · exact ⟨_, _, rfl, kO⟩
          · exact ⟨_, _, rfl, kT⟩
          · exact ⟨_, _, rfl, kW⟩
        obtain ⟨C, ks, rfl, kE⟩ := hE
        walk_at "wg1"
        refine ws_if ?_
        walk_at "go"
        refine we_const (fun H => .adr _) ?_
        walk_at "go"
        refine rc_isXC kE.er kE.a ?_
        refine ⟨_, rfl, itF rfl ?_⟩
        walk_at "go"
        refine we_ty ?_
        walk_at "go"
        refine rc_isXT kE.er kE.v ?_
        refine ⟨_, rfl, itF rfl ?_⟩
        walk_at "ws1"
        exact ⟨rfl, _, rfl⟩
      · rintro m ρ1 ⟨rfl, x, rfl⟩
        exact ⟨rfl, x, rfl⟩
    rintro n1 ρ1 ⟨rfl, x, rfl⟩
    walk_at "ws1"
    refine ws_if (wt_or (wt_B (we_cb (wa_cons (we_mkE ?_)))))
    walk_at "go"
    refine ⟨rfl, by decide, ?_⟩
    walk_at "go"
    refine we_const (fun H => .adr _) ?_
    walk_at "go"
    refine we_const (fun H => .adr _) ?_
    refine wa_nil ⟨Nat.le_of_ble_eq_true rfl, ?_⟩
    refine wa_nil (rc_isXN (Cs := [X_BadOrder.C, X_BadWorld.C]) kT.er nT ?_)
    refine ⟨_, rfl, itF rfl ?_⟩
    refine wt_B (we_cb (wa_cons (we_mkE ?_)))
    walk_at "go"
    refine ⟨rfl, by decide, ?_⟩
    walk_at "go"
    refine we_const (fun H => .adr _) ?_
    walk_at "go"
    refine we_const (fun H => .adr _) ?_
    refine wa_nil ⟨Nat.le_of_ble_eq_true rfl, ?_⟩
    refine wa_nil (rc_isXN (Cs := [X_BadText.C, X_BadWorld.C]) kO.er nO ?_)
    refine ⟨_, rfl, itF rfl ?_⟩
    walk_at "ws1"
    refine ws_seq (ws_set (we_mkE ?_))
    walk_at "go"
    refine ⟨rfl, by decide, ?_⟩
    refine ws_ret (we_and (we_op (we_xv ?_)))
    walk_at "we1"
    refine ⟨_, _, rfl, X_BadOrder.xf, X_BadOrder.no _ (by decide), _, rfl, ?_⟩
    walk_at "go"
    refine itT rfl ?_
    refine we_and (we_op (we_xv ?_))
    walk_at "we1"
    refine ⟨_, _, rfl, X_BadOrder.xf, X_BadOrder.no _ (by decide), _, rfl, ?_⟩
    walk_at "go"
    refine itT rfl ?_
    refine we_and (we_op (we_xv (we_mkE ?_)))
    walk_at "go"
    refine ⟨rfl, by decide, ?_⟩
    refine ⟨_, _, rfl, X_BadText.xf, X_BadText.no _ (by decide), _, rfl, ?_⟩
    walk_at "go"
    refine itT rfl ?_
    refine we_op (we_xv (we_mkE ?_))
    walk_at "go"
    refine ⟨rfl, by decide, ?_⟩
    refine ⟨_, _, rfl, X_BadWorld.xf, X_BadWorld.no _ (by decide), _, rfl, ?_⟩
    walk_at "go"
    refine r2_eqD (by decide +kernel) (by decide +kernel) ?_
    rw [L3.eq_self (by decide +kernel)]
    exact kk

end
end Toy
namespace L3
open PySem L2
section
variable {c : Ctx} {ρ : List SD} {n : Nat} {Φ : Nat → D → Prop}
/-- x[i].f of instances in a list -/
theorem we_atf {i j k : Nat} {C : Addr} {f : Str} {xs : List D} {ks : List (Str × D)} {d : D} (cl : Cls c.K C) (na : NoAttr c.K C f) (h1 : ρ[i]? = some (.val (.lst xs))) (h2 : ρ[j]? = some (.val (.int (k : Int)))) (h3 : xs[k]? = some (.obj C ks)) (h4 : ks.lookup f = some d) (kk : Φ n d) : WE c (tFld c.K (tOp (rIx c.K) (tVar i) (tVar j)) f) ρ n Φ :=
  we_fld cl na (we_op (we_var h1 (we_var h2 (r2_ix (ixD_nat h3) ⟨_, rfl, d, h4, kk⟩))))
end
end L3
namespace Toy
open PySem L2 L3
local macro_rules | `(tactic| walk_at "we1") => `(tactic| first
  | ((with_reducible refine' we_var ?hv ?_); (case hv => rfl))
  | (with_reducible refine we_int ?_)
  | (with_reducible refine we_str ?_)
  | (with_reducible refine we_bl ?_)
  | (with_reducible refine we_non ?_)
  | ((with_reducible refine' we_dix ?hv ?_); (case hv => rfl))
  | (with_reducible refine we_op ?_)
  | ((with_reducible refine' we_dget ?hv ?_); (case hv => rfl))
  | (with_reducible refine we_count ?_)
  | (with_reducible refine we_cb ?_)
  | (with_reducible refine we_call0 ?_)
  | (with_reducible refine we_tup ?_)
  | (with_reducible refine we_lst ?_)
  | (with_reducible refine we_if ?_)
  | (with_reducible refine we_not ?_)
  | (with_reducible refine we_and ?_)
  | (with_reducible refine we_or ?_)
  | (with_reducible refine we_isN ?_)
  | (with_reducible refine we_notN ?_)
  | (with_reducible refine we_sl ?_)
  | (with_reducible refine wa_cons ?_)
  | (with_reducible refine wa_nil ?_)
  | (with_reducible refine wt_test ?_)
  | (with_reducible refine wt_B ?_)
  | (with_reducible refine wt_and ?_)
  | (with_reducible refine wt_or ?_)
  | (with_reducible refine wt_not ?_)
  | (with_reducible refine wt_yes ?_)
  | (with_reducible refine wo_none ?_)
  | (with_reducible refine wo_some ?_)
  | ((with_reducible refine' r2_ix ?hx ?_); (case hx => rfl))
  | (with_reducible refine r2_isN ?_)
  | (with_reducible refine r2_notN ?_)
  | (with_reducible refine r2_lt ?_)
  | (with_reducible refine r2_le ?_)
  | (with_reducible refine r2_gt ?_)
  | (with_reducible refine r2_ge ?_)
  | (with_reducible refine r2_sub ?_)
  | (with_reducible refine r2_addI ?_)
  | (with_reducible refine r2_eqI ?_)
  | (with_reducible refine r2_neI ?_)
  | (with_reducible refine rc_int ?_)
  | (with_reducible refine rc_abs ?_)
  | ((with_reducible refine' rc_len ?hl ?_); (case hl => rfl))
  | (with_reducible refine wi_seq ?_)
  | (with_reducible refine wi_rng1 ?_)
  | (with_reducible refine wi_rng2 ?_)
  | (with_reducible refine wi_enum ?_)
  | (refine ⟨_, rfl, ?_⟩))
local macro_rules | `(tactic| walk_at "ws1") => `(tactic| first
  | (with_reducible refine ws_seq ?_)
  | (with_reducible refine ws_set ?_)
  | (with_reducible refine ws_ret ?_)
  | (with_reducible refine ws_if ?_)
  | (with_reducible refine ws_next ?_)
  | (with_reducible refine ws_asg ?_))
local macro_rules | `(tactic| walk_at "wg1") => `(tactic| first
  | (with_reducible refine wg_name (rw_name (by decide)) ?_)
  | (with_reducible refine wg_name (fun _ _ => trivial) ?_)
  | ((with_reducible refine' wg_tup ?hl ?_); (case hl => rfl))
  | (with_reducible refine wgs_cons rw_trans ?_)
  | (with_reducible refine wgs_nil rw_refl ?_)
  | (with_reducible refine wgs_cons (fun _ _ _ _ _ => trivial) ?_)
  | (with_reducible refine wgs_nil (fun _ => trivial) ?_))
local macro_rules | `(tactic| walk_at "go") => `(tactic| repeat' (first | walk_at "we1" | walk_at "wg1"))
section
variable {P : Program} {w : World} {K : PySem.W.Frag} {mg : Str → Option Value} {base : Heap}
def spBag (K : PySem.W.Frag) : Sp := fun vs H Q _ => ∃ (a : Addr) (ns : List Int), vs = [.ref a] ∧ SqL K H a (ns.map V.int) ∧ ns.length ≤ 63 ∧
  ∀ (b q : Addr) (cs : List Int) (H' : Hp), q ≠ b → H' b = some (.lst [.ref q, .int 0, .int 0]) → H' q = some (.lst (cs.map V.int)) → cs ≠ [] → (∀ c ∈ cs, 0 ≤ c) → cs.length ≤ 63 → Q (.ref b) H'
def absD : D → D
  | .int i => .int (if i < 0 then -i else i)
  | d => d
abbrev s_law_bag : Stmt := top 19
abbrev N_law_bag : List Str := ["script", "cell", "cells"]
theorem sc_law_bag : FnScope N_law_bag ["script"] (defScope s_law_bag) := ⟨rfl, rfl, rfl, by decide +kernel, rfl, by decide +kernel, by decide +kernel⟩

theorem ok_bag {f : Addr} {fd : FuncData} (F : Fun K "_law_bag" "_law_bag" s_law_bag f fd) (T : Txt mg) : FnOk P w K mg base CX0 1 f fd ["script"] (spBag K) := by
  refine F.ok sc_law_bag (fun vs H Q E h => ?_) (fun cdv A outer s H vs Q E hr h => ?_)
  · obtain ⟨a, ns, rfl, _⟩ := h
    rfl
  · obtain ⟨a, ns, rfl, hS, hlen, k⟩ := h
    refine ⟨_, (pss_cons (ps_setLc (i := 2) (own := [("cell", 1)]) (g := gName 1) (tt := tYes) rfl sc_law_bag.nd rfl rfl (sw_true rfl rfl rfl (by decide +kernel)) (x_seq K (pe_slice (x_sl K) (pv 0) po_none (po_some pe_int))) (blkOk_by (own := [("cell", 1)]) (N := N_law_bag) (sc := defScope s_law_bag) (by decide +kernel)) (fun _ _ _ _ _ => (pg_name (i := 1) sc_law_bag.nd rfl (Or.inl rfl))) (fun _ _ _ _ _ => pts_nil) (fun _ _ _ _ _ => (pe_callB call_absX (by rfl) T.b_abs (by decide +kernel) (pa_cons (pv 1) pa_nil))))
  (pss_cons (ps_if (pt_cmpR (x_eq K (by exact hr.units)) (pe_callB (x_len K) (by rfl) T.b_len (by decide +kernel) (pa_cons (pv 2) pa_nil)) pe_int (nomark _)) (pss_one (ps_set (i := 2) sc_law_bag.nd rfl (Or.inl rfl) (pe_lst (pa_cons pe_int pa_nil)))) pss_nil)
  (pss_one (ps_ret (pe_lst (pa_cons (pv 2) (pa_cons pe_int (pa_cons pe_int pa_nil)))))))), ?_⟩
    refine st_seq ?_
    refine' (?W1 : WS ⟨P, w, K, [], none, H⟩ _ [.val (.adr a), .un, .un] 0 { nx := fun n1 ρ1 => ∃ cs : List Int, ρ1 = [.val (.adr a), .un, .own (cs.map .int)] ∧ cs.length ≤ 63 ∧ ∀ c ∈ cs, 0 ≤ c, rt := fun _ _ => False }) (fun _ => none) [] _ H _ ?E1 ?A1
    case E1 =>
      exact { nd := List.nodup_nil, fresh := (fun l hl => nomatch hl), slots := ⟨[], .val (.adr a) (.un (.un .nil)), List.Sublist.refl _⟩, lst := (fun l hl => nomatch hl), bag := (fun b q e => nomatch e), base := Same.refl _,
              pers := (fun _ _ e => nomatch e), bO := (fun b q e => nomatch e), al := (fun o ho => nomatch ho) }
    case W1 =>
      refine ws_own (i := 2) (Nat.le_of_ble_eq_true rfl) (wf_map absD (fun _ => true) ?_)
      refine wi_seq (we_slA (a := a) (ns := ns) rfl hS rfl ?_)
      walk_at "go"
      obtain ⟨ys, e1, e2⟩ := cut_map D.int ns none (some 63)
      have hy := e2.length_le
      rw [e1]
      refine ⟨by rw [List.length_map]; omega, fun d hd m => ?_, ?_⟩
      · obtain ⟨y, hy, rfl⟩ := List.mem_map.mp hd
        walk_at "go"
        refine ⟨rfl, rfl, fun _ => ?_⟩
        walk_at "go"
        exact ⟨rfl, rfl⟩
      rw [filt_all]
      refine ⟨ys.map fun i => if i < 0 then -i else i, ?_, by rw [List.length_map]; omega, fun c hc => ?_⟩
      · rw [List.map_map, List.map_map]; rfl
      · obtain ⟨y, _, rfl⟩ := List.mem_map.mp hc
        by_cases q : y < 0
        · rw [if_pos q]; omega
        · rw [if_neg q]; omega
    refine { nx := fun L n H1 σ1 ρ1 E1 ⟨cs, e, h1, h2⟩ => ?_, rt := fun _ _ _ _ _ _ _ h => h.elim, bk := fun _ _ _ _ _ _ h => h.elim, ct := fun _ _ _ _ _ _ h => h.elim }
    subst e
    dsimp only
    refine st_seq ?_
    refine' (?W2 : WS ⟨P, w, K, [], none, H⟩ _ [.val (.adr a), .un, .own (cs.map .int)] n { nx := fun n1 ρ1 => ∃ cs : List Int, ρ1 = [.val (.adr a), .un, .own (cs.map .int)] ∧ cs.length ≤ 63 ∧ (∀ c ∈ cs, 0 ≤ c) ∧ cs ≠ [], rt := fun _ _ => False }) _ L σ1 H1 _ E1 ?A2
    case W2 =>
      refine ws_if (wt_look 2 rfl ?_)
      walk_at "go"
      refine dec2 (fun hz => ?_) (fun hz => ?_)
      · refine ws_own (i := 2) (Nat.le_of_ble_eq_true rfl) ?_
        refine wf_lst ?_
        walk_at "go"
        exact ⟨Nat.le_of_ble_eq_true rfl, [5], rfl, by decide, by decide, by decide⟩
      · walk_at "ws1"
        refine ⟨cs, rfl, h1, h2, fun q => ?_⟩
        subst q
        exact hz rfl
    refine { nx := fun L n H2 σ2 ρ2 E2 ⟨cs, e, h1, h2, h3⟩ => ?_, rt := fun _ _ _ _ _ _ _ h => h.elim, bk := fun _ _ _ _ _ _ h => h.elim, ct := fun _ _ _ _ _ _ h => h.elim }
    subst e
    obtain ⟨l, xs, g1, g2, g3, _⟩ := E2.own_at (i := 2) rfl
    have ex := g3.ints
    subst ex
    refine ⟨_, g1, Nat.le_of_ble_eq_true rfl, fun p hp => ?_⟩
    have npl : l ≠ p := fun e => by rw [← e, g2] at hp; cases hp
    exact k p l cs _ npl upd_same (by rw [upd_ne npl]; exact g2) h3 h2 h1
theorem dep_all (m : Nat) : ∀ ds : List D, (∀ d ∈ ds, (dpy d).depth ≤ m) → (dpy (.lst ds)).depth ≤ m + 1 ∧ (dpy (.tup ds)).depth ≤ m + 1 := fun ds h => by
  have e : PyData.depthAll (dpyAll ds) ≤ m := by
    induction ds with
    | nil => exact Nat.zero_le _
    | cons x ds ih =>
      show max (PyData.depth (dpy x)) (PyData.depthAll (dpyAll ds)) ≤ m
      exact Nat.max_le.mpr ⟨h x List.mem_cons_self, ih fun d hd => h d (List.mem_cons_of_mem _ hd)⟩
  exact ⟨(show PyData.depthAll (dpyAll ds) + 1 ≤ m + 1 by omega), (show PyData.depthAll (dpyAll ds) + 1 ≤ m + 1 by omega)⟩

theorem fit4 {m : Nat} {e : Evx} (h : Drw m e) : fit (.tup [e.nm, e.en, e.kd, .tup e.ns]) = true := by
  have dn := (dep_all 50 e.ns fun d hd => enB_d (h.ns d hd)).2
  refine (fit_list fun d hd => ?_).2
  simp only [List.mem_cons, List.not_mem_nil, or_false] at hd
  rcases hd with rfl | rfl | rfl | rfl
  · exact ⟨enB_f (nmB_en h.nm), by have := enB_d (nmB_en h.nm); omega⟩
  · exact ⟨enB_f h.en, by have := enB_d h.en; omega⟩
  · exact ⟨enB_f h.kd, by have := enB_d h.kd; omega⟩
  · exact ⟨h.fns.2, by omega⟩
def evOfX (C : Addr) : D → D
  | .lst [a, b, c, .lst ns] => evD C ⟨a, b, c, ns⟩
  | _ => .non
theorem first_take : ∀ (es : List Evx) (el : List Str) (k : Nat), firstF el es = none → firstF el (es.take k) = none
  | [], _, k, _ => by rw [List.take_nil]; rfl
  | e :: es, el, 0, _ => rfl
  | e :: es, el, k + 1, h => by
    cases hf : faultOf el e with
    | some w => rw [firstF_yes hf] at h; cases h
    | none =>
      rw [firstF_no hf] at h
      rw [List.take_succ_cons, firstF_no hf]
      exact first_take es _ k h
theorem faults_len {es : List Evx} (h : faults es = none) : es.length ≤ 12 := by
  unfold faults at h
  split at h
  · cases h
  · omega
theorem faults_first {es : List Evx} (h : faults es = none) : firstF [] es = none := by
  unfold faults at h
  split at h
  · cases h
  · exact h
theorem faults_take {es : List Evx} (h : faults es = none) (k : Nat) : faults (es.take k) = none := by
  have h1 := faults_len h
  exact (if_neg (by rw [List.length_take]; omega)).trans (first_take es [] k (faults_first h))
theorem word_fit {el : List Str} {e : Evx} {w : Str} (h : faultOf el e = some w) : fit (.str w) = true := by
  unfold faultOf at h
  split at h
  · cases h; decide +kernel
  split at h
  · cases h; decide +kernel
  split at h
  · cases h; decide +kernel
  split at h
  · cases h; decide +kernel
  split at h
  · cases h; decide +kernel
  · cases h
theorem first_fit : ∀ (es : List Evx) (el : List Str) {w : Str} {x : D}, (∀ e ∈ es, fit e.nm = true) → firstF el es = some (w, x) → fit (.str w) = true ∧ fit x = true
  | [], _, _, _, _, h => by cases h
  | e :: es, el, w, x, hw, h => by
    cases hf : faultOf el e with
    | some w0 =>
      rw [firstF_yes hf] at h
      cases h
      exact ⟨word_fit hf, hw e List.mem_cons_self⟩
    | none =>
      rw [firstF_no hf] at h
      exact first_fit es _ (fun y hy => hw y (List.mem_cons_of_mem _ hy)) h
theorem faults_fit {es : List Evx} {w : Str} {x : D} (hw : ∀ e ∈ es, fit e.nm = true) (h : faults es = some (w, x)) : fit (.str w) = true ∧ fit x = true := by
  unfold faults at h
  split at h
  · cases h; exact ⟨by decide +kernel, rfl⟩
  · exact first_fit es [] hw h
def spLaw (K : PySem.W.Frag) : Sp := fun vs H Q _ => ∃ (a : Addr) (ns : List Int), vs = [.ref a] ∧ SqL K H a (ns.map V.int) ∧ ns.length ≤ 63 ∧ ∀ H', Q (.bl true) H'
abbrev s_law : Stmt := top 30
abbrev N_law : List Str := ["script", "bag", "turn", "events", "name", "end", "kind", "needs", "made", "place", "event", "due", "order", "one", "e"]
theorem sc_law : FnScope N_law ["script"] (defScope s_law) := ⟨rfl, rfl, rfl, by decide +kernel, rfl, by decide +kernel, by decide +kernel⟩

theorem ok_law {f CO CE : Addr} {fd : FuncData} (F : Fun K "law" "law" s_law f fd) (T : Txt mg) (TO : OrT K CO) (TE : EvT K CE) (X_BadOrder : Xn P w K mg base "BadOrder" ["what", "name"]) (M_Event4 : Mn P w K mg base "Event" 1 ["self", "name", "end", "kind", "needs"] [] [] spEvX) (e4 : M_Event4.C = CE) (R_Order : Mnx P w K mg base CO "Order" 3 ["self", "events"] [] [] (spOrderX X_BadOrder.C CE)) (I_Order : ItOwn P w K mg base CO "events" 1) (N_Order : Ln P w K mg base CO 1 ["self"] (spLenO CO CE))
    (O_Event : On P w K mg base CE 1 ["self", "other"] (spEqE CE)) (O_Order : On P w K mg base CO 3 ["self", "other"] (spEqO CO CE)) (D_law_bag : Dr P w K mg base "_law_bag" 1 ["script"] (spBag K)) (D_law_drawn : Dr P w K mg base "_law_drawn" 3 ["bag"] (spT P w K spDrawn)) (D_law_spoil : Dr P w K mg base "_law_spoil" 2 ["bag", "events"] (spS P w K spSpoil)) (D_law_fault : Dn P w K mg base "_law_fault" 2 ["events"] [] [] spFaultL)
    (D_law_errors_right : Dn P w K mg base "_law_errors_right" 3 [] [] [] spErr) (D_law_odd_needs : Dn P w K mg base "_law_odd_needs" 6 ["bag"] [] [] spOdd) (D_law_last_first : Dr P w K mg base "_law_last_first" 1 ["bag"] spNewBag) : FnOk P w K mg base CX0 7 f fd ["script"] (spLaw K) := by
  refine F.ok sc_law (fun vs H Q E h => ?_) (fun cdv A outer s H vs Q E hr h => ?_)
  · obtain ⟨a, ns, rfl, _⟩ := h
    rfl
  · obtain ⟨a, ns, rfl, hS, hlen, k⟩ := h
    have hS_Event := hS_E (C := CE)
    refine ⟨_, (pss_cons (ps_set (i := 1) sc_law.nd rfl (Or.inl rfl) (pe_call D_law_bag.G (hr.mono (by decide)) (by rfl) D_law_bag.m D_law_bag.k D_law_bag.b D_law_bag.v pass0 (pa_cons (pv 0) pa_nil)))
  (pss_cons (ps_for PassesOwn.never rfl (pi_range1 (by rfl) T.b_range (pa_cons pe_int pa_nil)) (pg_name (i := 2) sc_law.nd rfl (Or.inl rfl)) (pss_cons (ps_set (i := 3) sc_law.nd rfl (Or.inl rfl) (pe_call D_law_spoil.G (hr.mono (by decide)) (by rfl) D_law_spoil.m D_law_spoil.k D_law_spoil.b D_law_spoil.v pass0 (pa_cons (pv 1) (pa_cons (pe_call D_law_drawn.G (hr.mono (by decide)) (by rfl) D_law_drawn.m D_law_drawn.k D_law_drawn.b D_law_drawn.v pass0 (pa_cons (pv 1) pa_nil)) pa_nil))))
  (pss_cons (ps_setLc (i := 8) (own := [("name", 4), ("end", 5), ("kind", 6), ("needs", 7)]) (g := gSeqU K 4 (gCons (gName 4) (gCons (gName 5) (gCons (gName 6) (gCons (gName 7) gNil))))) (tt := tYes) rfl sc_law.nd rfl rfl (sw_true rfl rfl rfl (by decide +kernel)) (x_seq K (pv 3)) (blkOk_by (own := [("name", 4), ("end", 5), ("kind", 6), ("needs", 7)]) (N := N_law) (sc := defScope s_law) (by decide +kernel)) (fun _ _ _ _ _ => (pg_seqU (K := K) (by rfl) (pgs_cons (pg_name (i := 4) sc_law.nd rfl (Or.inl rfl)) (pgs_cons (pg_name (i := 5) sc_law.nd rfl (Or.inl rfl)) (pgs_cons (pg_name (i := 6) sc_law.nd rfl (Or.inl rfl)) (pgs_cons (pg_name (i := 7) sc_law.nd rfl (Or.inl rfl)) pgs_nil)))))) (fun _ _ _ _ _ => pts_nil) (fun _ _ _ _ _ => (pe_make M_Event4.M M_Event4.G (hr.mono (by decide)) (by rfl) M_Event4.m M_Event4.b M_Event4.v pass0 (pa_cons (pv 4) (pa_cons (pv 5) (pa_cons (pv 6) (pa_cons (pv 7) pa_nil)))))))
  (pss_cons (ps_for PassesOwn.never rfl (x_enum K (by rfl) T.b_enumerate (pa_cons (pv 3) pa_nil)) (x_tgt K (pg_tup (by rfl) (pgs_cons (pg_name (i := 9) sc_law.nd rfl (Or.inl rfl)) (pgs_cons (pg_name (i := 10) sc_law.nd rfl (Or.inl rfl)) pgs_nil)))) (pss_cons (ps_if (pt_cmpR (x_ne K (by exact hr.units)) (pe_tup (pa_cons (x_fld K (pe_fld (pe_ix (x_ix K) (pv 8) (pv 9) (fun _ _ => rfl)) rfl)) (pa_cons (x_fld K (pe_fld (pe_ix (x_ix K) (pv 8) (pv 9) (fun _ _ => rfl)) rfl)) (pa_cons (x_fld K (pe_fld (pe_ix (x_ix K) (pv 8) (pv 9) (fun _ _ => rfl)) rfl)) (pa_cons (x_fld K (pe_fld (pe_ix (x_ix K) (pv 8) (pv 9) (fun _ _ => rfl)) rfl)) pa_nil))))) (pe_tup (pa_cons (pe_ix (x_ix K) (pv 10) pe_int (fun _ _ => rfl)) (pa_cons (pe_ix (x_ix K) (pv 10) pe_int (fun _ _ => rfl)) (pa_cons (pe_ix (x_ix K) (pv 10) pe_int (fun _ _ => rfl)) (pa_cons (pe_callTy (x_tup K) (by rfl) T.b_tuple (by decide +kernel) (pa_cons (pe_ix (x_ix K) (pv 10) pe_int (fun _ _ => rfl)) pa_nil)) pa_nil))))) (nomark _)) (pss_one (ps_ret pe_bl)) pss_nil)
  (pss_one (ps_if (PW.pt (pw_or (pt_cmpR (op_ownNe O_Event.G O_Event.T (hr.mono (by decide)) O_Event.b pass0) (pe_ix (x_ix K) (pv 8) (pv 9) (fun _ _ => rfl)) (pe_make M_Event4.M M_Event4.G (hr.mono (by decide)) (by rfl) M_Event4.m M_Event4.b M_Event4.v pass0 (pa_cons (pe_ix (x_ix K) (pv 10) pe_int (fun _ _ => rfl)) (pa_cons (pe_ix (x_ix K) (pv 10) pe_int (fun _ _ => rfl)) (pa_cons (pe_ix (x_ix K) (pv 10) pe_int (fun _ _ => rfl)) (pa_cons (pe_callTy (x_tup K) (by rfl) T.b_tuple (by decide +kernel) (pa_cons (pe_ix (x_ix K) (pv 10) pe_int (fun _ _ => rfl)) pa_nil)) pa_nil))))) (nomark _)) (pw_or1 (pt_cmpR (op_ownEq O_Event.G O_Event.T (hr.mono (by decide)) O_Event.b pass0) (pe_ix (x_ix K) (pv 8) (pv 9) (fun _ _ => rfl)) (pe_make M_Event4.M M_Event4.G (hr.mono (by decide)) (by rfl) M_Event4.m M_Event4.b M_Event4.v pass0 (pa_cons pe_str (pa_cons (pe_ix (x_ix K) (pv 10) pe_int (fun _ _ => rfl)) (pa_cons (pe_ix (x_ix K) (pv 10) pe_int (fun _ _ => rfl)) (pa_cons (pe_ix (x_ix K) (pv 10) pe_int (fun _ _ => rfl)) pa_nil))))) (nomark _))))) (pss_one (ps_ret pe_bl)) pss_nil))))
  (pss_cons (ps_set (i := 11) sc_law.nd rfl (Or.inl rfl) (pe_call D_law_fault.G (hr.mono (by decide)) (by rfl) D_law_fault.m D_law_fault.k D_law_fault.b D_law_fault.v pass0 (pa_cons (pv 3) pa_nil)))
  (pss_one (ps_try (i := 14) rfl rfl sc_law.nd rfl rfl ⟨rfl, by decide, Or.inl X_BadOrder.m⟩ takes0
 (fun W pn xe tk po => (pss_cons (ps_set (i := 12) sc_law.nd rfl (Or.inl rfl) (pe_makeSD R_Order.M R_Order.G (hr.mono (by decide)) (by rfl) R_Order.m R_Order.b R_Order.v (fun σ => passAt tk σ) (pa_cons (pv 8) pa_nil)))
  (pss_cons (ps_if (PW.pt (pw_or (pt_cmpR op_notN1 (pv 11) pe_non (nomark _)) (pw_or (pt_cmpR (x_ownTNe K O_Event.G hS_Event O_Event.T (hr.mono (by decide)) O_Event.b pass0) (x_fld K (pe_fld (pv 12) rfl)) (pe_callTy (x_tup K) (by rfl) T.b_tuple (by decide +kernel) (pa_cons (pv 8) pa_nil)) (nomark _)) (pw_or (pt_cmpR (x_ownLNe K O_Event.G hS_Event O_Event.T (hr.mono (by decide)) O_Event.b pass0) (pe_lc (own := [("one", 13)]) (g := gName 13) (tt := tYes) rfl sc_law.nd (x_own K (pv 12) I_Order.G I_Order.it I_Order.fn (hr.mono (by decide)) pass0) (blkOk_by (own := [("one", 13)]) (N := N_law) (sc := defScope s_law) (by decide +kernel)) (fun _ _ _ _ _ => (pg_name (i := 13) sc_law.nd rfl (Or.inl rfl))) (fun _ _ _ _ _ => pts_nil) (fun _ _ _ _ _ => (pv 13))) (pv 8) (nomark _)) (pw_or1 (pt_cmpR (x_ne K (by exact hr.units)) (pe_callB (call_lenO N_Order.G N_Order.hs N_Order.hf (hr.mono (by decide)) N_Order.b pass0) (by rfl) T.b_len (by decide +kernel) (pa_cons (pv 12) pa_nil)) (pe_callB (x_len K) (by rfl) T.b_len (by decide +kernel) (pa_cons (pv 8) pa_nil)) (nomark _))))))) (pss_one (ps_ret pe_bl)) pss_nil)
  (pss_one (ps_if (PW.pt (pw_or (pt_cmpR (op_ownNe O_Order.G O_Order.T (hr.mono (by decide)) O_Order.b pass0) (pv 12) (pe_makeSD R_Order.M R_Order.G (hr.mono (by decide)) (by rfl) R_Order.m R_Order.b R_Order.v (fun σ => passAt tk σ) (pa_cons (pe_callTy (x_tup K) (by rfl) T.b_tuple (by decide +kernel) (pa_cons (pv 8) pa_nil)) pa_nil)) (nomark _)) (pw_or1 (PW.pt (pw_and (pt_cmpR op_gt (pe_callB (x_len K) (by rfl) T.b_len (by decide +kernel) (pa_cons (pv 8) pa_nil)) pe_int (nomark _)) (pw_and1 (pt_cmpR (op_ownEq O_Order.G O_Order.T (hr.mono (by decide)) O_Order.b pass0) (pv 12) (pe_makeSD R_Order.M R_Order.G (hr.mono (by decide)) (by rfl) R_Order.m R_Order.b R_Order.v (fun σ => passAt tk σ) (pa_cons (pe_slice (x_sl K) (pv 8) po_none (po_some (pe_op op_sub (pe_callB (x_len K) (by rfl) T.b_len (by decide +kernel) (pa_cons (pv 8) pa_nil)) pe_int))) pa_nil)) (nomark _)))))))) (pss_one (ps_ret pe_bl)) pss_nil)))))
 (fun a oe cls d pn hz hf => (pss_one (ps_if (PW.pt (pw_or (pt_cmpR op_isN1 (pv 11) pe_non (nomark _)) (pw_or (pt_cmpR (x_ne K (by exact hr.units)) (pe_xf X_BadOrder.xf (X_BadOrder.no _ (by decide)) hz hf (pv 14)) (pe_ix (x_ix K) (pv 11) pe_int (fun _ _ => rfl)) (nomark _)) (pw_or1 (pt_ifT (pt_cmpR op_notN1 (pe_ix (x_ix K) (pv 11) pe_int (fun _ _ => rfl)) pe_non (nomark _)) (pt_cmpR (x_ne K (by exact hr.units)) (pe_xf X_BadOrder.xf (X_BadOrder.no _ (by decide)) hz hf (pv 14)) (pe_ix (x_ix K) (pv 11) pe_int (fun _ _ => rfl)) (nomark _)) (pt_cmpR op_notN1 (pe_xf X_BadOrder.xf (X_BadOrder.no _ (by decide)) hz hf (pv 14)) pe_non (nomark _))))))) (pss_one (ps_ret pe_bl)) pss_nil))))))))))
  (pss_one (ps_ret (pe_and (pe_call0 D_law_errors_right.G (hr.mono (by decide)) (by rfl) D_law_errors_right.m D_law_errors_right.k D_law_errors_right.b D_law_errors_right.v pass0 ) (pe_one (pe_call D_law_odd_needs.G (hr.mono (by decide)) (by rfl) D_law_odd_needs.m D_law_odd_needs.k D_law_odd_needs.b D_law_odd_needs.v pass0 (pa_cons (pe_call D_law_last_first.G (hr.mono (by decide)) (by rfl) D_law_last_first.m D_law_last_first.k D_law_last_first.b D_law_last_first.v pass0 (pa_cons (pv 1) pa_nil)) pa_nil)))))))), ?_⟩
    refine st_seq ?_
    refine ⟨_, rfl, a, ns, rfl, hS, hlen, fun b q bs H1 nqb g1 g2 g3 g4 g5 => ?_⟩
    refine gN_go ?_
    dsimp only
    refine' (?W : WS ⟨P, w, K, [q, b], some (b, q), H1⟩ _ [.un, .val (.adr b), .un, .un, .un, .un, .un, .un, .un, .un, .un, .un, .un, .un, .un] 0 { nx := fun _ _ => False, rt := fun _ d => d = .bl true }) (fun _ => none) [] _ H1 _ ?E1 ?A1
    case E1 =>
      exact { nd := List.nodup_nil, fresh := (fun l hl => nomatch hl), slots := ⟨[], .un (.val (.adr b) (slots_un 13)), List.Sublist.refl _⟩, lst := (fun l hl => nomatch hl), bag := (fun b' q' e => by cases e; exact ⟨0, 0, bs, g1, g2, g3, g4, g5, Int.le_refl _, Int.le_refl _, Int.le_refl _⟩), base := Same.refl _,
              pers := (fun _ _ e => nomatch e), bO := (fun b' q' e => by cases e; exact ⟨List.mem_cons_of_mem _ List.mem_cons_self, List.mem_cons_self, nqb⟩),
              al := fun o ho => by
                rcases List.mem_cons.mp ho with e | e
                · rw [e, g2]; exact fun z => nomatch z
                · rw [List.mem_singleton.mp e, g1]; exact fun z => nomatch z }
    case A1 =>
      exact { nx := fun _ _ _ _ _ _ h => h.elim, rt := fun v d n H' _ _ r e => by subst e; cases r; exact k H', bk := fun _ _ _ _ _ _ h => h.elim, ct := fun _ _ _ _ _ _ h => h.elim }
    case W =>
      clear g1 g2 g3 g4 g5 hS hlen k
      refine ws_cut2 (Nx := fun n1 ρ1 => n1 ≤ 1000 ∧ ∃ x2 x3 x4 x5 x6 x7 x8 x9 x10 x11 x12 x13 x14 : SD, ρ1 = [.un, .val (.adr b), x2, x3, x4, x5, x6, x7, x8, x9, x10, x11, x12, x13, x14]) ?_ ?_
      · refine ws_for ?_
        walk_at "go"
        refine ⟨by omega, by omega, fun i m ρ => m ≤ 200 * i ∧ ∃ x2 x3 x4 x5 x6 x7 x8 x9 x10 x11 x12 x13 x14 : SD, ρ = [.un, .val (.adr b), x2, x3, x4, x5, x6, x7, x8, x9, x10, x11, x12, x13, x14], ⟨Nat.le_refl _, _, _, _, _, _, _, _, _, _, _, _, _, _, rfl⟩, ?_, ?_⟩
        · rintro i m ρ1 d hd ⟨hm, x2, x3, x4, x5, x6, x7, x8, x9, x10, x11, x12, x13, x14, rfl⟩
          obtain ⟨hi, rfl⟩ := rangeD_get hd
          have hi3 : i < 3 := hi
          walk_at "wg1"
          refine ws_seq (ws_set (we_callS ?_))
          walk_at "we1"
          refine wtr_call ?_
          walk_at "go"
          refine ⟨b, q, rfl, rfl, by omega, fun es0 n1 h014 hd0 hn1 => ?_⟩
          refine ⟨b, q, es0, rfl, rfl, rfl, h014, hd0, by omega, fun es n2 h14 hdr hn2 => ?_⟩
          clear hd0 h014
          refine ws_seq (ws_set (wf_we (wf_map (evOfX CE) (fun _ => true) ?_)))
          walk_at "we1"
          walk_at "we1"
          refine ⟨_, rfl, by rw [List.length_map]; omega, fun d hd m => ?_, ?_⟩
          · obtain ⟨e, _, rfl⟩ := List.mem_map.mp hd
            refine wg_seqU (ds := [e.nm, e.en, e.kd, .lst e.ns]) rfl rfl ?_
            walk_at "go"
            refine ⟨rfl, rfl, fun _ => ?_⟩
            refine we_make (dds := []) (fun _ => .nil) ?_
            walk_at "go"
            refine ⟨true, e, rfl, rfl, ?_⟩
            rw [e4]; rfl
          rw [filt_all, List.map_map]
          have e1 : es.map (evOfX CE ∘ rowX) = es.map (evD CE) := List.map_congr_left fun e _ => rfl
          rw [e1]
          refine ws_cut2 (Nx := fun n3 ρ1 => n3 = n2 ∧ ∃ x2 x3 x4 x5 x6 x7 x8 x9 x10 x11 x12 x13 x14 : SD, ρ1 = [.un, .val (.adr b), x2, .val (.lst (es.map rowX)), x4, x5, x6, x7, .val (.lst (es.map (evD CE))), x9, x10, x11, x12, x13, x14]) ?_ ?_
          · refine ws_for ?_
            walk_at "go"
            refine ⟨fun j m ρ => m = n2 ∧ ∃ x2 x3 x4 x5 x6 x7 x8 x9 x10 x11 x12 x13 x14 : SD, ρ = [.un, .val (.adr b), x2, .val (.lst (es.map rowX)), x4, x5, x6, x7, .val (.lst (es.map (evD CE))), x9, x10, x11, x12, x13, x14], ⟨rfl, _, .un, _, _, _, _, .un, _, _, _, _, _, _, rfl⟩, ?_, ?_⟩
            · rintro j m ρ1 d hdd ⟨rfl, x2, x3, x4, x5, x6, x7, x8, x9, x10, x11, x12, x13, x14, rfl⟩
              obtain ⟨d1, hd1, rfl⟩ := enumD_get hdd
              obtain ⟨e, hee, rfl, hme, _⟩ := map_at hd1
              have de := hdr e hme
              have hz0 : (0 : Int) + (j : Nat) = (j : Nat) := by omega
              rw [hz0]
              have hmk : (es.map (evD CE))[j]? = some (evD CE e) := by rw [List.getElem?_map, hee]; rfl
              walk_at "go"
              show WS _ _ [.un, .val (.adr b), x2, .val (.lst (es.map rowX)), x4, x5, x6, x7, .val (.lst (es.map (evD CE))), .val (.int j), .val (.lst [e.nm, e.en, e.kd, .lst e.ns]), x11, x12, x13, x14] m _
              refine ws_cut2 (Nx := fun n3 ρ1 => n3 = m ∧ ρ1 = [.un, .val (.adr b), x2, .val (.lst (es.map rowX)), x4, x5, x6, x7, .val (.lst (es.map (evD CE))), .val (.int j), .val (.lst [e.nm, e.en, e.kd, .lst e.ns]), x11, x12, x13, x14]) ?_ ?_
              · refine ws_if (wt_test (we_op (we_tup (wa_cons (we_atf TE.cl TE.n1 rfl rfl hmk rfl (wa_cons (we_atf TE.cl TE.n2 rfl rfl hmk rfl (wa_cons (we_atf TE.cl TE.n3 rfl rfl hmk rfl (wa_cons (we_atf TE.cl TE.n4 rfl rfl hmk rfl (wa_nil ⟨Nat.le_of_ble_eq_true rfl, ?_⟩))))))))))))
                walk_at "go"
                refine rc_tup rfl ?_
                refine wa_nil ⟨Nat.le_of_ble_eq_true rfl, ?_⟩
                refine r2_neD (fit4 de) (fit4 de) ?_
                rw [L3.eq_self (fit4 de)]
                refine ⟨_, rfl, itF rfl ?_⟩
                walk_at "ws1"
                exact ⟨rfl, rfl⟩
              rintro n3 ρ1 ⟨rfl, rfl⟩
              refine ws_if ?_
              walk_at "go"
              refine r2_ix (ixD_nat hmk) ?_
              refine we_make (dds := []) (fun _ => .nil) ?_
              walk_at "go"
              refine rc_tup rfl ?_
              refine wa_nil ⟨false, e, rfl, ?_⟩
              rw [e4]
              refine r2_own ⟨e, e, rfl, de.fx, de.fx, _, rfl, ?_⟩
              rw [eqEv_self de.fx]
              refine ⟨_, rfl, itF rfl ?_⟩
              walk_at "go"
              refine r2_ix (ixD_nat hmk) ?_
              refine we_make (dds := []) (fun _ => .nil) ?_
              walk_at "go"
              refine ⟨true, ⟨.str "q", e.en, e.kd, e.ns⟩, rfl, ?_⟩
              have fq : Fx ⟨.str "q", e.en, e.kd, e.ns⟩ := ⟨(by show fit (.str "q") = true; decide +kernel), de.fx.f2, de.fx.f3, de.fx.f4⟩
              have eq0 : eqD e.nm (.str "q") = false := by
                have := (Bool.and_eq_true_iff.mp de.nm).2
                simpa using this
              refine r2_own ⟨e, ⟨.str "q", e.en, e.kd, e.ns⟩, rfl, de.fx, fq, _, rfl, ?_⟩
              have : eqEv e ⟨.str "q", e.en, e.kd, e.ns⟩ = false := by
                unfold eqEv
                rw [eq0, Bool.false_and, Bool.false_and]
              rw [this]
              refine ⟨_, rfl, itF rfl ?_⟩
              walk_at "ws1"
              exact ⟨rfl, _, .un, _, _, _, _, .un, _, _, _, _, _, _, rfl⟩
            · rintro m ρ1 ⟨rfl, x2, x3, x4, x5, x6, x7, x8, x9, x10, x11, x12, x13, x14, rfl⟩
              exact ⟨rfl, _, .un, _, _, _, _, .un, _, _, _, _, _, _, rfl⟩
          clear x2 x3 x4 x5 x6 x7 x8 x9 x10 x11 x12 x13 x14
          rintro n3 ρ1 ⟨rfl, x2, x3, x4, x5, x6, x7, x8, x9, x10, x11, x12, x13, x14, rfl⟩
          refine ws_seq ?_
          walk_at "ws1"
          walk_at "go"
          refine ⟨es, 4, rfl, h14, by decide, hdr, ?_⟩
          show WS _ _ [.un, .val (.adr b), x2, .val (.lst (es.map rowX)), x4, x5, x6, x7, .val (.lst (es.map (evD CE))), x9, x10, .val (faultD es), x12, x13, x14] n3 _
          have lks : ∀ (gs : List Evx), (∀ e ∈ gs, e ∈ es) → ∀ e ∈ gs, Lk e ∧ e.ns.length ≤ 1000 := fun gs hg e he => ⟨(hdr e (hg e he)).lk, Nat.le_trans (hdr e (hg e he)).le (by decide)⟩
          have gd : ∀ (i : Nat) d e, (es.map (evD CE))[i]? = some d → (es.map (evD CE))[i]? = some e → ∃ ks, d = .obj CE ks ∧ e = .obj CE ks ∧ goodE ks := fun i d e h1 h2 => by
            rw [h1] at h2
            cases h2
            obtain ⟨x, hx, rfl, hmx, _⟩ := map_at h1
            exact ⟨_, rfl, rfl, x, rfl, (hdr x hmx).fx⟩
          refine ws_try (Ξ := fun n' ρ' CC ks => n' = n3 ∧ ρ' = ([.un, .val (.adr b), x2, .val (.lst (es.map rowX)), x4, x5, x6, x7, .val (.lst (es.map (evD CE))), x9, x10, .val (faultD es), x12, x13, x14]).map asd ∧ CC = X_BadOrder.C ∧ ∃ w x, faults es = some (w, x) ∧ ks = xOrd w x) (fun O' H0' WW hW => ?_) (fun n' ρ' CC ks h => ?_)
          · show WS _ _ [.un, .val (.adr b), asd x2, .val (.lst (es.map rowX)), asd x4, asd x5, asd x6, asd x7, .val (.lst (es.map (evD CE))), asd x9, asd x10, .val (faultD es), asd x12, asd x13, asd x14] n3 _
            refine ws_seq (ws_set (we_makeSD hW (dds := []) (fun _ => .nil) ?_))
            walk_at "go"
            refine ⟨true, es, rfl, h14, lks es (fun e he => he), fun hF => ?_, fun w x hx => ⟨rfl, rfl, rfl, w, x, hx, rfl⟩⟩
            show WS _ _ [.un, .val (.adr b), asd x2, .val (.lst (es.map rowX)), asd x4, asd x5, asd x6, asd x7, .val (.lst (es.map (evD CE))), asd x9, asd x10, .val (faultD es), .val (ordD CO CE es), asd x13, asd x14] n3 _
            rw [faultD_no hF]
            have h12 := faults_len hF
            refine ws_cut2 (Nx := fun n4 ρ1 => n4 = n3 ∧ ρ1 = [.un, .val (.adr b), asd x2, .val (.lst (es.map rowX)), asd x4, asd x5, asd x6, asd x7, .val (.lst (es.map (evD CE))), asd x9, asd x10, .val .non, .val (ordD CO CE es), asd x13, asd x14]) ?_ ?_
            · refine ws_if ?_
              walk_at "go"
              refine itF rfl ?_
              refine wt_or (wt_test (we_op (we_fld TO.cl TO.n1 ?_)))
              walk_at "we1"
              refine ⟨_, rfl, _, rfl, ?_⟩
              walk_at "go"
              refine rc_tup rfl ?_
              refine r2_ownTU gd ?_
              rw [if_pos rfl, bne_self_eq_false]
              refine ⟨_, rfl, itF rfl ?_⟩
              refine wt_or (wt_test (we_op (wf_we (wf_map id (fun _ => true) (wi_own ?_)))))
              walk_at "we1"
              refine ⟨_, _, rfl, rfl, by rw [List.length_map]; omega, fun d hd m => ?_, ?_⟩
              · walk_at "go"
                refine ⟨rfl, rfl, fun _ => ?_⟩
                walk_at "go"
                exact ⟨rfl, rfl⟩
              rw [filt_all, List.map_id]
              walk_at "go"
              refine r2_ownLN (good := goodE) (fun d hd => ?_) ?_
              · obtain ⟨x, hx, rfl⟩ := List.mem_map.mp hd
                exact ⟨_, rfl, x, rfl, (hdr x hx).fx⟩
              refine ⟨_, rfl, itF rfl ?_⟩
              walk_at "go"
              refine rc_lenO ⟨es, rfl, es.length, rfl, by omega, ?_⟩
              walk_at "go"
              rw [List.length_map]
              refine decN (fun h => absurd rfl h) (fun _ => ?_)
              walk_at "ws1"
              exact ⟨rfl, rfl⟩
            rintro n4 ρ1 ⟨rfl, rfl⟩
            refine ws_if (wt_or (wt_test (we_op ?_)))
            walk_at "we1"
            refine we_makeSD hW (dds := []) (fun _ => .nil) ?_
            walk_at "go"
            refine rc_tup rfl ?_
            refine wa_nil ⟨false, es, rfl, h14, lks es (fun e he => he), fun _ => ?_, fun w x hx => by rw [hF] at hx; cases hx⟩
            refine r2_own ⟨es, es, rfl, fun e he => (hdr e he).fx, fun i e g h1 h2 => by rw [h1] at h2; exact Option.some.inj h2, _, rfl, ?_⟩
            rw [beq_self_eq_true]
            refine ⟨_, rfl, itF rfl ?_⟩
            walk_at "go"
            rw [List.length_map]
            refine dec2 (fun h0 => ?_) (fun h0 => ?_)
            · refine wt_test (we_op ?_)
              walk_at "we1"
              refine we_makeSD hW (dds := []) (fun _ => .nil) ?_
              walk_at "go"
              rw [List.length_map]
              have ek : ((es.length : Nat) : Int) - 1 = ((es.length - 1 : Nat) : Int) := by omega
              rw [ek, cut_to (by rw [List.length_map]; omega), ← List.map_take]
              refine ⟨true, es.take (es.length - 1), rfl, by rw [List.length_take]; omega, lks _ (fun e he => List.mem_of_mem_take he), fun _ => ?_, fun w x hx => by rw [faults_take hF] at hx; cases hx⟩
              refine r2_own ⟨es, es.take (es.length - 1), rfl, fun e he => (hdr e he).fx, fun i e g h1 h2 => ?_, _, rfl, ?_⟩
              · rw [List.getElem?_take] at h2
                split at h2
                · rw [h1] at h2; exact Option.some.inj h2
                · cases h2
              have ne : (es.length == (es.take (es.length - 1)).length) = false := by
                rw [List.length_take]
                exact beq_eq_false_iff_ne.mpr (by omega)
              rw [ne]
              refine ⟨_, rfl, itF rfl ?_⟩
              walk_at "ws1"
              exact ⟨by omega, _, _, _, _, _, _, _, _, _, _, _, _, _, rfl⟩
            · refine itF rfl ?_
              walk_at "ws1"
              exact ⟨by omega, _, _, _, _, _, _, _, _, _, _, _, _, _, rfl⟩
          · obtain ⟨rfl, rfl, rfl, w0, x0, hx, rfl⟩ := h
            refine ⟨X_BadOrder.te, fun O' H0' dx a hd => ?_⟩
            obtain ⟨fw, fx⟩ := faults_fit (fun e he => (hdr e he).lk.fn) hx
            rw [faultD_yes hx]
            refine ws_if ?_
            walk_at "go"
            refine itF rfl ?_
            refine wt_or (wt_test (we_op (we_xf hd ?_)))
            walk_at "we1"
            refine ⟨rfl, _, rfl, ?_⟩
            walk_at "go"
            refine r2_neD fw fw ?_
            rw [L3.eq_self fw]
            refine ⟨_, rfl, itF rfl ?_⟩
            refine wt_ifT ?_
            walk_at "go"
            cases hN : isNon x0 with
            | true =>
              refine itF rfl ?_
              refine wt_test (we_op (we_xf hd ?_))
              walk_at "we1"
              refine ⟨rfl, _, rfl, ?_⟩
              walk_at "go"
              rw [hN]
              refine itF rfl ?_
              walk_at "ws1"
              exact ⟨by omega, _, _, _, _, _, _, _, _, _, _, _, _, _, rfl⟩
            | false =>
              refine itT rfl ?_
              refine wt_test (we_op (we_xf hd ?_))
              walk_at "we1"
              refine ⟨rfl, _, rfl, ?_⟩
              walk_at "go"
              refine r2_neD fx fx ?_
              rw [L3.eq_self fx]
              refine ⟨_, rfl, itF rfl ?_⟩
              walk_at "ws1"
              exact ⟨by omega, _, _, _, _, _, _, _, _, _, _, _, _, _, rfl⟩
        · rintro m ρ1 ⟨hm, x2, x3, x4, x5, x6, x7, x8, x9, x10, x11, x12, x13, x14, rfl⟩
          rw [rangeD_len] at hm
          have h3 : (3 : Int).toNat = 3 := rfl
          rw [h3] at hm
          exact ⟨by omega, _, _, _, _, _, _, _, _, _, _, _, _, _, rfl⟩
      rintro n1 ρ1 ⟨hn1, x2, x3, x4, x5, x6, x7, x8, x9, x10, x11, x12, x13, x14, rfl⟩
      walk_at "ws1"
      refine we_and (we_call0 (wa_nil ⟨rfl, ?_⟩))
      refine ⟨_, rfl, itT rfl ?_⟩
      exact we_bag2 rfl rfl fun b2 q2 => ⟨b2, q2, rfl, rfl, by decide, fun n'' => ⟨_, rfl, rfl⟩⟩

end
end Toy
namespace Toy
open PySem L2 L3
theorem all_mk {l : PySem.W.OpenLaw} {w : World} {K : PySem.W.Frag} {h : Heap} {mg : Str → Option Value} {fa : Addr} (X : K.In h) (G : h.Ns mainGlobals mg) (hfa : mg "law" = some (.ref fa))
    {C_Event : Addr}
    {f5 : Addr}
    {f6 : Addr}
    {C_Order : Addr}
    {f8 : Addr}
    {f9 : Addr}
    {f11 : Addr}
    {f10 : Addr}
    {C_AskedError : Addr}
    {C_BadOrder f0 : Addr} {nm_BadOrder q_BadOrder : Str} {N_BadOrder : Addr} {bs_BadOrder : List Value} {sn_BadOrder : List Str} {sub_BadOrder : List Value} {ab_BadOrder : Bool} {col_BadOrder : Option Bool} {dd_BadOrder : Option Addr} {m0_BadOrder m1_BadOrder m2_BadOrder m3_BadOrder m5_BadOrder : Option Value}
    {C_BadText f1 : Addr} {nm_BadText q_BadText : Str} {N_BadText : Addr} {bs_BadText : List Value} {sn_BadText : List Str} {sub_BadText : List Value} {ab_BadText : Bool} {col_BadText : Option Bool} {dd_BadText : Option Addr} {m0_BadText m1_BadText m2_BadText m3_BadText m5_BadText : Option Value}
    {C_BadWorld f2 : Addr} {nm_BadWorld q_BadWorld : Str} {N_BadWorld : Addr} {bs_BadWorld : List Value} {sn_BadWorld : List Str} {sub_BadWorld : List Value} {ab_BadWorld : Bool} {col_BadWorld : Option Bool} {dd_BadWorld : Option Addr} {m0_BadWorld m1_BadWorld m2_BadWorld m3_BadWorld m5_BadWorld : Option Value}
    {od0 an0 : Option Addr} {sl0 : Array (Option Value)} {oc0 kV0 dc0 pm0 cd0 ct0 : Value}
    {od1 an1 : Option Addr} {sl1 : Array (Option Value)} {oc1 kV1 dc1 pm1 cd1 ct1 : Value}
    {od2 an2 : Option Addr} {sl2 : Array (Option Value)} {oc2 kV2 dc2 pm2 cd2 ct2 : Value}
    {f3 : Addr}
    {od3 an3 : Option Addr} {sl3 : Array (Option Value)} {oc3 kV3 dc3 pm3 cd3 ct3 : Value}
    {f4 : Addr}
    {od4 an4 : Option Addr} {sl4 : Array (Option Value)} {oc4 kV4 dc4 pm4 cd4 ct4 : Value}
    {od5 an5 : Option Addr} {sl5 : Array (Option Value)} {oc5 kV5 dc5 pm5 cd5 ct5 : Value}
    {TT5 : Addr} {odT5 : Option Addr} {slT5 : Array (Option Value)} {ocT5 : Value} {nT5 : Nat} {E0 : Addr}
    {od6 an6 : Option Addr} {sl6 : Array (Option Value)} {oc6 kV6 dc6 pm6 cd6 ct6 : Value}
    {f7 : Addr}
    {od7 an7 : Option Addr} {sl7 : Array (Option Value)} {oc7 kV7 dc7 pm7 cd7 ct7 : Value}
    {od8 an8 : Option Addr} {sl8 : Array (Option Value)} {oc8 kV8 dc8 pm8 cd8 ct8 : Value}
    {od9 an9 : Option Addr} {sl9 : Array (Option Value)} {oc9 kV9 dc9 pm9 cd9 ct9 : Value}
    {od10 an10 : Option Addr} {sl10 : Array (Option Value)} {oc10 kV10 dc10 pm10 cd10 ct10 : Value}
    {od11 an11 : Option Addr} {sl11 : Array (Option Value)} {oc11 kV11 dc11 pm11 cd11 ct11 : Value}
    {f12 : Addr}
    {od12 an12 : Option Addr} {sl12 : Array (Option Value)} {oc12 kV12 dc12 pm12 cd12 ct12 : Value}
    {f13 : Addr}
    {od13 an13 : Option Addr} {sl13 : Array (Option Value)} {oc13 kV13 dc13 pm13 cd13 ct13 : Value}
    {f14 : Addr}
    {od14 an14 : Option Addr} {sl14 : Array (Option Value)} {oc14 kV14 dc14 pm14 cd14 ct14 : Value}
    {f15 : Addr}
    {od15 an15 : Option Addr} {sl15 : Array (Option Value)} {oc15 kV15 dc15 pm15 cd15 ct15 : Value}
    {f16 : Addr}
    {od16 an16 : Option Addr} {sl16 : Array (Option Value)} {oc16 kV16 dc16 pm16 cd16 ct16 : Value}
    {f17 : Addr}
    {od17 an17 : Option Addr} {sl17 : Array (Option Value)} {oc17 kV17 dc17 pm17 cd17 ct17 : Value}
    {f18 : Addr}
    {od18 an18 : Option Addr} {sl18 : Array (Option Value)} {oc18 kV18 dc18 pm18 cd18 ct18 : Value}
    {f19 : Addr}
    {od19 an19 : Option Addr} {sl19 : Array (Option Value)} {oc19 kV19 dc19 pm19 cd19 ct19 : Value}
    {f20 : Addr}
    {od20 an20 : Option Addr} {sl20 : Array (Option Value)} {oc20 kV20 dc20 pm20 cd20 ct20 : Value}
    {f21 : Addr}
    {od21 an21 : Option Addr} {sl21 : Array (Option Value)} {oc21 kV21 dc21 pm21 cd21 ct21 : Value}
    {f22 : Addr}
    {od22 an22 : Option Addr} {sl22 : Array (Option Value)} {oc22 kV22 dc22 pm22 cd22 ct22 : Value}
    {f23 : Addr}
    {od23 an23 : Option Addr} {sl23 : Array (Option Value)} {oc23 kV23 dc23 pm23 cd23 ct23 : Value}
    {tL tS tE tN tM tq ta : Tok}
    {aK : Addr}
    {odK : Option Addr}
    {nK : Nat}
    {slK : Array (Option Value)}
    {odE0 : Option Addr}
    {nE0 : Nat}
    {slE0 : Array (Option Value)}
    (aC_Event : PySem.W.nsIn K mainGlobals "Event" = some (some (.ref C_Event)))
    (pg_Event : PySem.W.plainGet K C_Event Str.empty = true)
    (hd_Event : PySem.W.hasDictIn K C_Event = true)
    (po_Event : PySem.W.plainOver K C_Event = true)
    (sa_Event : PySem.W.findIn K (.ref C_Event) "__setattr__" = some (some (.builtin "object.__setattr__")))
    (na_Event_name : PySem.W.findIn K (.ref C_Event) "name" = some none)
    (na_Event_end : PySem.W.findIn K (.ref C_Event) "end" = some none)
    (na_Event_kind : PySem.W.findIn K (.ref C_Event) "kind" = some none)
    (na_Event_needs : PySem.W.findIn K (.ref C_Event) "needs" = some none)
    (mk_Event : PySem.W.makesIn K C_Event = true)
    (in_Event : PySem.W.findIn K (.ref C_Event) "__init__" = some (some (.ref f5)))
    (fn_Event : PySem.W.isFn K (.ref f5) = true)
    (kp_Event : PySem.W.keepIn K (.ref C_Event) = true)
    (oe_Event : PySem.W.findIn K (.ref C_Event) "__eq__" = some (some (.ref f6)))
    (of_Event : PySem.W.isFn K (.ref f6) = true)
    (on_Event : PySem.W.findIn K (.ref C_Event) "__ne__" = some (some (.builtin "object.__ne__")))
    (om_Event : PySem.W.mroIn K C_Event (.type "object") = some true)
    (i1_Event : PySem.W.findIn K (.ref C_Event) "__class__" = some (some (.builtin "object.__class__")))
    (aC_Order : PySem.W.nsIn K mainGlobals "Order" = some (some (.ref C_Order)))
    (pg_Order : PySem.W.plainGet K C_Order Str.empty = true)
    (hd_Order : PySem.W.hasDictIn K C_Order = true)
    (po_Order : PySem.W.plainOver K C_Order = true)
    (sa_Order : PySem.W.findIn K (.ref C_Order) "__setattr__" = some (some (.builtin "object.__setattr__")))
    (na_Order_events : PySem.W.findIn K (.ref C_Order) "events" = some none)
    (mk_Order : PySem.W.makesIn K C_Order = true)
    (in_Order : PySem.W.findIn K (.ref C_Order) "__init__" = some (some (.ref f8)))
    (fn_Order : PySem.W.isFn K (.ref f8) = true)
    (kp_Order : PySem.W.keepIn K (.ref C_Order) = true)
    (oe_Order : PySem.W.findIn K (.ref C_Order) "__eq__" = some (some (.ref f9)))
    (of_Order : PySem.W.isFn K (.ref f9) = true)
    (on_Order : PySem.W.findIn K (.ref C_Order) "__ne__" = some (some (.builtin "object.__ne__")))
    (om_Order : PySem.W.mroIn K C_Order (.type "object") = some true)
    (ln_Order : PySem.W.findIn K (.ref C_Order) "__len__" = some (some (.ref f11)))
    (lnf_Order : PySem.W.isFn K (.ref f11) = true)
    (it_Order : PySem.W.findIn K (.ref C_Order) "__iter__" = some (some (.ref f10)))
    (itf_Order : PySem.W.isFn K (.ref f10) = true)
    (i1_Order : PySem.W.findIn K (.ref C_Order) "__class__" = some (some (.builtin "object.__class__")))
    (i2_ : PySem.W.specialIn K (.builtin "object.__class__") "__get__" = some (some (.builtin "getset_descriptor.__get__")))
    (i3_ : PySem.W.takesIn K (.builtin "object.__class__") = some true)
    (aC_AskedError : PySem.W.nsIn K mainGlobals "AskedError" = some (some (.ref C_AskedError)))
    (rd_AskedError : PySem.W.readsIn K C_AskedError (.type "type") = true)
    (ga_AskedError : PySem.W.specialIn K (.ref C_AskedError) "__getattribute__" = some (some (.builtin "type.__getattribute__")))
    (vi_AskedError : PySem.W.findCls K (.ref C_AskedError) (.type "type") "__init__" = some (.val (.builtin "ValueError.__init__")))
    (aC_BadOrder : PySem.W.nsIn K mainGlobals "BadOrder" = some (some (.ref C_BadOrder)))
    (xL_BadOrder : K.lookup C_BadOrder = some (excClassObj nm_BadOrder q_BadOrder C_BadOrder N_BadOrder bs_BadOrder [.ref C_AskedError, .type "ValueError", .type "Exception", .type "BaseException", .type "object"] true sn_BadOrder sub_BadOrder ab_BadOrder col_BadOrder dd_BadOrder m0_BadOrder m1_BadOrder m2_BadOrder m3_BadOrder m5_BadOrder "ValueError.__new__"))
    (sa_BadOrder : PySem.W.findIn K (.ref C_BadOrder) "__setattr__" = some (some (.builtin "object.__setattr__")))
    (xa_BadOrder : PySem.W.findIn K (.ref C_BadOrder) "__getattribute__" = some (some (.builtin "BaseException.__getattribute__")))
    (xg_BadOrder : PySem.W.findIn K (.ref C_BadOrder) "__getattr__" = some none)
    (na_BadOrder_what : PySem.W.findIn K (.ref C_BadOrder) "what" = some none)
    (na_BadOrder_name : PySem.W.findIn K (.ref C_BadOrder) "name" = some none)
    (in_BadOrder : PySem.W.findIn K (.ref C_BadOrder) "__init__" = some (some (.ref f0)))
    (ti_BadOrder : PySem.W.typeIn K (.ref f0) = some (.type "function"))
    (kp_BadOrder : PySem.W.keepIn K (.ref C_BadOrder) = true)
    (ex_BadOrder : PySem.W.subIn K (.ref C_BadOrder) (.type "BaseException") = some true)
    (ty_BadOrder : PySem.W.typeIn K (.ref C_BadOrder) = some (.type "type"))
    (hd_BadOrder : PySem.W.hasDictIn K C_BadOrder = true)
    (ic_BadOrder : PySem.W.isClsIn K C_BadOrder = true)
    (sc_BadOrder : PySem.W.subIn K (.ref C_BadOrder) (.ref C_BadOrder) = some true)
    (aC_BadText : PySem.W.nsIn K mainGlobals "BadText" = some (some (.ref C_BadText)))
    (xL_BadText : K.lookup C_BadText = some (excClassObj nm_BadText q_BadText C_BadText N_BadText bs_BadText [.ref C_AskedError, .type "ValueError", .type "Exception", .type "BaseException", .type "object"] true sn_BadText sub_BadText ab_BadText col_BadText dd_BadText m0_BadText m1_BadText m2_BadText m3_BadText m5_BadText "ValueError.__new__"))
    (sa_BadText : PySem.W.findIn K (.ref C_BadText) "__setattr__" = some (some (.builtin "object.__setattr__")))
    (xa_BadText : PySem.W.findIn K (.ref C_BadText) "__getattribute__" = some (some (.builtin "BaseException.__getattribute__")))
    (xg_BadText : PySem.W.findIn K (.ref C_BadText) "__getattr__" = some none)
    (na_BadText_row : PySem.W.findIn K (.ref C_BadText) "row" = some none)
    (in_BadText : PySem.W.findIn K (.ref C_BadText) "__init__" = some (some (.ref f1)))
    (ti_BadText : PySem.W.typeIn K (.ref f1) = some (.type "function"))
    (kp_BadText : PySem.W.keepIn K (.ref C_BadText) = true)
    (ex_BadText : PySem.W.subIn K (.ref C_BadText) (.type "BaseException") = some true)
    (ty_BadText : PySem.W.typeIn K (.ref C_BadText) = some (.type "type"))
    (hd_BadText : PySem.W.hasDictIn K C_BadText = true)
    (ic_BadText : PySem.W.isClsIn K C_BadText = true)
    (sc_BadText : PySem.W.subIn K (.ref C_BadText) (.ref C_BadText) = some true)
    (aC_BadWorld : PySem.W.nsIn K mainGlobals "BadWorld" = some (some (.ref C_BadWorld)))
    (xL_BadWorld : K.lookup C_BadWorld = some (excClassObj nm_BadWorld q_BadWorld C_BadWorld N_BadWorld bs_BadWorld [.ref C_AskedError, .type "ValueError", .type "Exception", .type "BaseException", .type "object"] true sn_BadWorld sub_BadWorld ab_BadWorld col_BadWorld dd_BadWorld m0_BadWorld m1_BadWorld m2_BadWorld m3_BadWorld m5_BadWorld "ValueError.__new__"))
    (sa_BadWorld : PySem.W.findIn K (.ref C_BadWorld) "__setattr__" = some (some (.builtin "object.__setattr__")))
    (xa_BadWorld : PySem.W.findIn K (.ref C_BadWorld) "__getattribute__" = some (some (.builtin "BaseException.__getattribute__")))
    (xg_BadWorld : PySem.W.findIn K (.ref C_BadWorld) "__getattr__" = some none)
    (na_BadWorld_what : PySem.W.findIn K (.ref C_BadWorld) "what" = some none)
    (in_BadWorld : PySem.W.findIn K (.ref C_BadWorld) "__init__" = some (some (.ref f2)))
    (ti_BadWorld : PySem.W.typeIn K (.ref f2) = some (.type "function"))
    (kp_BadWorld : PySem.W.keepIn K (.ref C_BadWorld) = true)
    (ex_BadWorld : PySem.W.subIn K (.ref C_BadWorld) (.type "BaseException") = some true)
    (ty_BadWorld : PySem.W.typeIn K (.ref C_BadWorld) = some (.type "type"))
    (hd_BadWorld : PySem.W.hasDictIn K C_BadWorld = true)
    (ic_BadWorld : PySem.W.isClsIn K C_BadWorld = true)
    (sc_BadWorld : PySem.W.subIn K (.ref C_BadWorld) (.ref C_BadWorld) = some true)
    (l0 : K.lookup f0 = some ⟨oc0, od0, .func (PySem.W.fnOf "__init__" "BadOrder.__init__" (defArgs s_BadOrder___init) (defBody s_BadOrder___init) (defScope s_BadOrder___init) .none kV0 dc0 pm0 an0 cd0 ct0), sl0⟩)
    (c0 : PySem.W.codeIn K cd0 "BadOrder.__init__" = true)
    (k0 : PySem.W.keepIn K (.ref f0) = true)
    (l1 : K.lookup f1 = some ⟨oc1, od1, .func (PySem.W.fnOf "__init__" "BadText.__init__" (defArgs s_BadText___init) (defBody s_BadText___init) (defScope s_BadText___init) .none kV1 dc1 pm1 an1 cd1 ct1), sl1⟩)
    (c1 : PySem.W.codeIn K cd1 "BadText.__init__" = true)
    (k1 : PySem.W.keepIn K (.ref f1) = true)
    (l2 : K.lookup f2 = some ⟨oc2, od2, .func (PySem.W.fnOf "__init__" "BadWorld.__init__" (defArgs s_BadWorld___init) (defBody s_BadWorld___init) (defScope s_BadWorld___init) .none kV2 dc2 pm2 an2 cd2 ct2), sl2⟩)
    (c2 : PySem.W.codeIn K cd2 "BadWorld.__init__" = true)
    (k2 : PySem.W.keepIn K (.ref f2) = true)
    (a3 : PySem.W.nsIn K mainGlobals "is_whole" = some (some (.ref f3)))
    (l3 : K.lookup f3 = some ⟨oc3, od3, .func (PySem.W.fnOf "is_whole" "is_whole" (defArgs s_is_whole) (defBody s_is_whole) (defScope s_is_whole) .none kV3 dc3 pm3 an3 cd3 ct3), sl3⟩)
    (c3 : PySem.W.codeIn K cd3 "is_whole" = true)
    (k3 : PySem.W.keepIn K (.ref f3) = true)
    (a4 : PySem.W.nsIn K mainGlobals "is_name" = some (some (.ref f4)))
    (l4 : K.lookup f4 = some ⟨oc4, od4, .func (PySem.W.fnOf "is_name" "is_name" (defArgs s_is_name) (defBody s_is_name) (defScope s_is_name) .none kV4 dc4 pm4 an4 cd4 ct4), sl4⟩)
    (c4 : PySem.W.codeIn K cd4 "is_name" = true)
    (k4 : PySem.W.keepIn K (.ref f4) = true)
    (l5 : K.lookup f5 = some ⟨oc5, od5, .func (PySem.W.fnOf "__init__" "Event.__init__" (defArgs s_Event___init) (defBody s_Event___init) (defScope s_Event___init) (.ref TT5) kV5 dc5 pm5 an5 cd5 ct5), sl5⟩)
    (c5 : PySem.W.codeIn K cd5 "Event.__init__" = true)
    (k5 : PySem.W.keepIn K (.ref f5) = true)
    (lT5 : K.lookup TT5 = some ⟨ocT5, odT5, .seq #[.ref E0] nT5, slT5⟩)
    (l6 : K.lookup f6 = some ⟨oc6, od6, .func (PySem.W.fnOf "__eq__" "Event.__eq__" (defArgs s_Event___eq) (defBody s_Event___eq) (defScope s_Event___eq) .none kV6 dc6 pm6 an6 cd6 ct6), sl6⟩)
    (c6 : PySem.W.codeIn K cd6 "Event.__eq__" = true)
    (k6 : PySem.W.keepIn K (.ref f6) = true)
    (a7 : PySem.W.nsIn K mainGlobals "event_fault" = some (some (.ref f7)))
    (l7 : K.lookup f7 = some ⟨oc7, od7, .func (PySem.W.fnOf "event_fault" "event_fault" (defArgs s_event_fault) (defBody s_event_fault) (defScope s_event_fault) .none kV7 dc7 pm7 an7 cd7 ct7), sl7⟩)
    (c7 : PySem.W.codeIn K cd7 "event_fault" = true)
    (k7 : PySem.W.keepIn K (.ref f7) = true)
    (l8 : K.lookup f8 = some ⟨oc8, od8, .func (PySem.W.fnOf "__init__" "Order.__init__" (defArgs s_Order___init) (defBody s_Order___init) (defScope s_Order___init) .none kV8 dc8 pm8 an8 cd8 ct8), sl8⟩)
    (c8 : PySem.W.codeIn K cd8 "Order.__init__" = true)
    (k8 : PySem.W.keepIn K (.ref f8) = true)
    (l9 : K.lookup f9 = some ⟨oc9, od9, .func (PySem.W.fnOf "__eq__" "Order.__eq__" (defArgs s_Order___eq) (defBody s_Order___eq) (defScope s_Order___eq) .none kV9 dc9 pm9 an9 cd9 ct9), sl9⟩)
    (c9 : PySem.W.codeIn K cd9 "Order.__eq__" = true)
    (k9 : PySem.W.keepIn K (.ref f9) = true)
    (l10 : K.lookup f10 = some ⟨oc10, od10, .func (PySem.W.fnOf "__iter__" "Order.__iter__" (defArgs s_Order___iter) (defBody s_Order___iter) (defScope s_Order___iter) .none kV10 dc10 pm10 an10 cd10 ct10), sl10⟩)
    (c10 : PySem.W.codeIn K cd10 "Order.__iter__" = true)
    (k10 : PySem.W.keepIn K (.ref f10) = true)
    (l11 : K.lookup f11 = some ⟨oc11, od11, .func (PySem.W.fnOf "__len__" "Order.__len__" (defArgs s_Order___len) (defBody s_Order___len) (defScope s_Order___len) .none kV11 dc11 pm11 an11 cd11 ct11), sl11⟩)
    (c11 : PySem.W.codeIn K cd11 "Order.__len__" = true)
    (k11 : PySem.W.keepIn K (.ref f11) = true)
    (a12 : PySem.W.nsIn K mainGlobals "_law_bag" = some (some (.ref f12)))
    (l12 : K.lookup f12 = some ⟨oc12, od12, .func (PySem.W.fnOf "_law_bag" "_law_bag" (defArgs s_law_bag) (defBody s_law_bag) (defScope s_law_bag) .none kV12 dc12 pm12 an12 cd12 ct12), sl12⟩)
    (c12 : PySem.W.codeIn K cd12 "_law_bag" = true)
    (k12 : PySem.W.keepIn K (.ref f12) = true)
    (a13 : PySem.W.nsIn K mainGlobals "_law_draw" = some (some (.ref f13)))
    (l13 : K.lookup f13 = some ⟨oc13, od13, .func (PySem.W.fnOf "_law_draw" "_law_draw" (defArgs s_law_draw) (defBody s_law_draw) (defScope s_law_draw) .none kV13 dc13 pm13 an13 cd13 ct13), sl13⟩)
    (c13 : PySem.W.codeIn K cd13 "_law_draw" = true)
    (k13 : PySem.W.keepIn K (.ref f13) = true)
    (a14 : PySem.W.nsIn K mainGlobals "_law_names" = some (some (.ref f14)))
    (l14 : K.lookup f14 = some ⟨oc14, od14, .func (PySem.W.fnOf "_law_names" "_law_names" (defArgs s_law_names) (defBody s_law_names) (defScope s_law_names) .none kV14 dc14 pm14 an14 cd14 ct14), sl14⟩)
    (c14 : PySem.W.codeIn K cd14 "_law_names" = true)
    (k14 : PySem.W.keepIn K (.ref f14) = true)
    (a15 : PySem.W.nsIn K mainGlobals "_law_drawn" = some (some (.ref f15)))
    (l15 : K.lookup f15 = some ⟨oc15, od15, .func (PySem.W.fnOf "_law_drawn" "_law_drawn" (defArgs s_law_drawn) (defBody s_law_drawn) (defScope s_law_drawn) .none kV15 dc15 pm15 an15 cd15 ct15), sl15⟩)
    (c15 : PySem.W.codeIn K cd15 "_law_drawn" = true)
    (k15 : PySem.W.keepIn K (.ref f15) = true)
    (a16 : PySem.W.nsIn K mainGlobals "_law_spoil" = some (some (.ref f16)))
    (l16 : K.lookup f16 = some ⟨oc16, od16, .func (PySem.W.fnOf "_law_spoil" "_law_spoil" (defArgs s_law_spoil) (defBody s_law_spoil) (defScope s_law_spoil) .none kV16 dc16 pm16 an16 cd16 ct16), sl16⟩)
    (c16 : PySem.W.codeIn K cd16 "_law_spoil" = true)
    (k16 : PySem.W.keepIn K (.ref f16) = true)
    (a17 : PySem.W.nsIn K mainGlobals "_law_is_name" = some (some (.ref f17)))
    (l17 : K.lookup f17 = some ⟨oc17, od17, .func (PySem.W.fnOf "_law_is_name" "_law_is_name" (defArgs s_law_is_name) (defBody s_law_is_name) (defScope s_law_is_name) .none kV17 dc17 pm17 an17 cd17 ct17), sl17⟩)
    (c17 : PySem.W.codeIn K cd17 "_law_is_name" = true)
    (k17 : PySem.W.keepIn K (.ref f17) = true)
    (a18 : PySem.W.nsIn K mainGlobals "_law_fault" = some (some (.ref f18)))
    (l18 : K.lookup f18 = some ⟨oc18, od18, .func (PySem.W.fnOf "_law_fault" "_law_fault" (defArgs s_law_fault) (defBody s_law_fault) (defScope s_law_fault) .none kV18 dc18 pm18 an18 cd18 ct18), sl18⟩)
    (c18 : PySem.W.codeIn K cd18 "_law_fault" = true)
    (k18 : PySem.W.keepIn K (.ref f18) = true)
    (a19 : PySem.W.nsIn K mainGlobals "_law_errors_right" = some (some (.ref f19)))
    (l19 : K.lookup f19 = some ⟨oc19, od19, .func (PySem.W.fnOf "_law_errors_right" "_law_errors_right" (defArgs s_law_errors_right) (defBody s_law_errors_right) (defScope s_law_errors_right) .none kV19 dc19 pm19 an19 cd19 ct19), sl19⟩)
    (c19 : PySem.W.codeIn K cd19 "_law_errors_right" = true)
    (k19 : PySem.W.keepIn K (.ref f19) = true)
    (a20 : PySem.W.nsIn K mainGlobals "_law_last_first" = some (some (.ref f20)))
    (l20 : K.lookup f20 = some ⟨oc20, od20, .func (PySem.W.fnOf "_law_last_first" "_law_last_first" (defArgs s_law_last_first) (defBody s_law_last_first) (defScope s_law_last_first) .none kV20 dc20 pm20 an20 cd20 ct20), sl20⟩)
    (c20 : PySem.W.codeIn K cd20 "_law_last_first" = true)
    (k20 : PySem.W.keepIn K (.ref f20) = true)
    (a21 : PySem.W.nsIn K mainGlobals "_law_order_word" = some (some (.ref f21)))
    (l21 : K.lookup f21 = some ⟨oc21, od21, .func (PySem.W.fnOf "_law_order_word" "_law_order_word" (defArgs s_law_order_word) (defBody s_law_order_word) (defScope s_law_order_word) .none kV21 dc21 pm21 an21 cd21 ct21), sl21⟩)
    (c21 : PySem.W.codeIn K cd21 "_law_order_word" = true)
    (k21 : PySem.W.keepIn K (.ref f21) = true)
    (a22 : PySem.W.nsIn K mainGlobals "_law_odd_needs" = some (some (.ref f22)))
    (l22 : K.lookup f22 = some ⟨oc22, od22, .func (PySem.W.fnOf "_law_odd_needs" "_law_odd_needs" (defArgs s_law_odd_needs) (defBody s_law_odd_needs) (defScope s_law_odd_needs) .none kV22 dc22 pm22 an22 cd22 ct22), sl22⟩)
    (c22 : PySem.W.codeIn K cd22 "_law_odd_needs" = true)
    (k22 : PySem.W.keepIn K (.ref f22) = true)
    (a23 : PySem.W.nsIn K mainGlobals "law" = some (some (.ref f23)))
    (l23 : K.lookup f23 = some ⟨oc23, od23, .func (PySem.W.fnOf "law" "law" (defArgs s_law) (defBody s_law) (defScope s_law) .none kV23 dc23 pm23 an23 cd23 ct23), sl23⟩)
    (c23 : PySem.W.codeIn K cd23 "law" = true)
    (k23 : PySem.W.keepIn K (.ref f23) = true)
    (zLETTERS : PySem.W.nsIn K mainGlobals "LETTERS" = some (some (.str letters tL)))
    (zSIGNS : PySem.W.nsIn K mainGlobals "SIGNS" = some (some (.str signs36 tS)))
    (zENDS : PySem.W.nsIn K mainGlobals "MOST_ENDS" = some (some (.int 5 tE)))
    (zNEEDS : PySem.W.nsIn K mainGlobals "MOST_NEEDS" = some (some (.int 3 tN)))
    (zEVENTS : PySem.W.nsIn K mainGlobals "MOST_EVENTS" = some (some (.int 12 tM)))
    (zKINDS : PySem.W.nsIn K mainGlobals "KINDS" = some (some (.ref aK)))
    (lK : K.lookup aK = some ⟨.type "tuple", odK, .seq #[.str "query" tq, .str "action" ta] nK, slK⟩)
    (lE0 : K.lookup E0 = some ⟨.type "tuple", odE0, .seq #[] nE0, slE0⟩)
    (ic_A : PySem.W.isClsIn K C_AskedError = true)
    (ty_A : PySem.W.typeIn K (.ref C_AskedError) = some (.type "type"))
    (xc_BadOrder : PySem.W.findIn K (.ref C_BadOrder) "__class__" = some (some (.builtin "object.__class__")))
    (xm_BadOrder : PySem.W.mroIn K C_BadOrder (.type "object") = some true)
    (ka_BadOrder : PySem.W.subIn K (.ref C_BadOrder) (.ref C_AskedError) = some true)
    (kv_BadOrder : PySem.W.subIn K (.ref C_BadOrder) (.type "ValueError") = some true)
    (xc_BadText : PySem.W.findIn K (.ref C_BadText) "__class__" = some (some (.builtin "object.__class__")))
    (xm_BadText : PySem.W.mroIn K C_BadText (.type "object") = some true)
    (ka_BadText : PySem.W.subIn K (.ref C_BadText) (.ref C_AskedError) = some true)
    (kv_BadText : PySem.W.subIn K (.ref C_BadText) (.type "ValueError") = some true)
    (xc_BadWorld : PySem.W.findIn K (.ref C_BadWorld) "__class__" = some (some (.builtin "object.__class__")))
    (xm_BadWorld : PySem.W.mroIn K C_BadWorld (.type "object") = some true)
    (ka_BadWorld : PySem.W.subIn K (.ref C_BadWorld) (.ref C_AskedError) = some true)
    (kv_BadWorld : PySem.W.subIn K (.ref C_BadWorld) (.type "ValueError") = some true)
    (sn_BadText_BadOrder : PySem.W.subIn K (.ref C_BadText) (.ref C_BadOrder) = some false)
    (sn_BadText_BadWorld : PySem.W.subIn K (.ref C_BadText) (.ref C_BadWorld) = some false)
    (sn_BadOrder_BadText : PySem.W.subIn K (.ref C_BadOrder) (.ref C_BadText) = some false)
    (sn_BadOrder_BadWorld : PySem.W.subIn K (.ref C_BadOrder) (.ref C_BadWorld) = some false)
    (z2_iter : PySem.W.nsIn K mainGlobals "iter" = some none)
    (z2_ValueError : PySem.W.nsIn K mainGlobals "ValueError" = some none)
    (z_len : PySem.W.nsIn K mainGlobals "len" = some none)
    (z_abs : PySem.W.nsIn K mainGlobals "abs" = some none)
    (z_sum : PySem.W.nsIn K mainGlobals "sum" = some none)
    (z_max : PySem.W.nsIn K mainGlobals "max" = some none)
    (z_min : PySem.W.nsIn K mainGlobals "min" = some none)
    (z_all : PySem.W.nsIn K mainGlobals "all" = some none)
    (z_any : PySem.W.nsIn K mainGlobals "any" = some none)
    (z_sorted : PySem.W.nsIn K mainGlobals "sorted" = some none)
    (z_isinstance : PySem.W.nsIn K mainGlobals "isinstance" = some none)
    (z_int : PySem.W.nsIn K mainGlobals "int" = some none)
    (z_bool : PySem.W.nsIn K mainGlobals "bool" = some none)
    (z_str : PySem.W.nsIn K mainGlobals "str" = some none)
    (z_list : PySem.W.nsIn K mainGlobals "list" = some none)
    (z_tuple : PySem.W.nsIn K mainGlobals "tuple" = some none)
    (z_range : PySem.W.nsIn K mainGlobals "range" = some none)
    (z_enumerate : PySem.W.nsIn K mainGlobals "enumerate" = some none)
    (z_dict : PySem.W.nsIn K mainGlobals "dict" = some none)
    : ∃ fd : FuncData, (∀ (s : Shared) (v : Value), BindsTo s fd ⟨[v], []⟩ [("script", v)]) ∧ ∀ base : Heap, K.In base → base.Ns mainGlobals mg → FnOk l.prog w K mg base CX0 7 fa fd ["script"] (spLaw K) := by
  have e := hfa.symm.trans (PySem.W.mg_of X G a23)
  cases e
  have T : Txt mg := ⟨PySem.W.mg_none_of X G z_len, PySem.W.mg_none_of X G z_abs, PySem.W.mg_none_of X G z_sum, PySem.W.mg_none_of X G z_max, PySem.W.mg_none_of X G z_min, PySem.W.mg_none_of X G z_all, PySem.W.mg_none_of X G z_any, PySem.W.mg_none_of X G z_sorted, PySem.W.mg_none_of X G z_isinstance, PySem.W.mg_none_of X G z_int, PySem.W.mg_none_of X G z_bool, PySem.W.mg_none_of X G z_str, PySem.W.mg_none_of X G z_list, PySem.W.mg_none_of X G z_tuple, PySem.W.mg_none_of X G z_range, PySem.W.mg_none_of X G z_enumerate, PySem.W.mg_none_of X G z_dict⟩
  refine ⟨PySem.W.fnOf "law" "law" (defArgs s_law) (defBody s_law) (defScope s_law) .none kV23 dc23 pm23 an23 cd23 ct23, fun s v => .of_eq rfl, fun base _ _ => ?_⟩
  have T2 : Txt2 mg tL tS := ⟨T, PySem.W.mg_of X G zLETTERS, PySem.W.mg_of X G zSIGNS⟩
  have T3 : Txt3 K mg tE tN aK := ⟨T, PySem.W.mg_of X G zENDS, PySem.W.mg_of X G zNEEDS, PySem.W.mg_of X G zKINDS, fun H => .tup (.inr ⟨_, _, _, lK, rfl, rfl, Nat.le_of_ble_eq_true rfl, (show Vals [V.str "query", V.str "action"] _ from .cons ⟨_, rfl⟩ (.cons ⟨_, rfl⟩ .nil))⟩) (.cons (.str _) (.cons (.str _) .nil))⟩
  have T4 : Txt4 mg tM := ⟨T, PySem.W.mg_of X G zEVENTS⟩
  have hE0 : ∀ H, Rp K H (.ref E0) (.tup []) := fun H => .tup (.inr ⟨_, _, _, lE0, rfl, rfl, Nat.le_of_ble_eq_true rfl, (show Vals [] _ from .nil)⟩) .nil
  have b_iter := PySem.W.mg_none_of X G z2_iter
  have b_ValueError := PySem.W.mg_none_of X G z2_ValueError
  have Cl_Event : Cls K C_Event := ⟨pg_Event, hd_Event, po_Event, sa_Event⟩
  have TI_Event : IsaT K C_Event := ⟨i1_Event, i2_, i3_, om_Event⟩
  have gC_Event := PySem.W.mg_of X G aC_Event
  have TE : EvT K C_Event := ⟨Cl_Event, na_Event_name, na_Event_end, na_Event_kind, na_Event_needs⟩
  have Cl_Order : Cls K C_Order := ⟨pg_Order, hd_Order, po_Order, sa_Order⟩
  have TI_Order : IsaT K C_Order := ⟨i1_Order, i2_, i3_, om_Order⟩
  have gC_Order := PySem.W.mg_of X G aC_Order
  have TO : OrT K C_Order := ⟨Cl_Order, na_Order_events⟩
  have kE_BadOrder := (⟨⟨⟨xa_BadOrder, xg_BadOrder, ex_BadOrder, hd_BadOrder, xc_BadOrder, i2_, i3_, xm_BadOrder⟩, kitCls_own ic_BadOrder ty_BadOrder sc_BadOrder⟩, kitOne_yes ic_A ty_A ka_BadOrder, kitOne_ty (by decide +kernel) kv_BadOrder⟩ : ErK K C_BadOrder C_AskedError)
  have kE_BadText := (⟨⟨⟨xa_BadText, xg_BadText, ex_BadText, hd_BadText, xc_BadText, i2_, i3_, xm_BadText⟩, kitCls_own ic_BadText ty_BadText sc_BadText⟩, kitOne_yes ic_A ty_A ka_BadText, kitOne_ty (by decide +kernel) kv_BadText⟩ : ErK K C_BadText C_AskedError)
  have kE_BadWorld := (⟨⟨⟨xa_BadWorld, xg_BadWorld, ex_BadWorld, hd_BadWorld, xc_BadWorld, i2_, i3_, xm_BadWorld⟩, kitCls_own ic_BadWorld ty_BadWorld sc_BadWorld⟩, kitOne_yes ic_A ty_A ka_BadWorld, kitOne_ty (by decide +kernel) kv_BadWorld⟩ : ErK K C_BadWorld C_AskedError)
  have nT_ := kitAny_no2 (kitOne_no sc_BadText ic_BadOrder ty_BadOrder sn_BadText_BadOrder) (kitOne_no sc_BadText ic_BadWorld ty_BadWorld sn_BadText_BadWorld)
  have nO_ := kitAny_no2 (kitOne_no sc_BadOrder ic_BadText ty_BadText sn_BadOrder_BadText) (kitOne_no sc_BadOrder ic_BadWorld ty_BadWorld sn_BadOrder_BadWorld)
  have A_AskedError : AskC K C_AskedError ∧ mg "AskedError" = some (.ref C_AskedError) := ⟨⟨rd_AskedError, ga_AskedError, vi_AskedError⟩, PySem.W.mg_of X G aC_AskedError⟩
  have F0 := fun_mk (st := s_BadOrder___init) l0 c0 k0
  have b0 := F0.binds (ps := ["self", "what", "name"]) fun _ _ _ _ _ _ us hl => match us, hl with | [_, _, _], _ => rfl
  have To_BadOrder : OexC K C_BadOrder := ⟨⟨nm_BadOrder, q_BadOrder, N_BadOrder, bs_BadOrder, _, sn_BadOrder, sub_BadOrder, ab_BadOrder, col_BadOrder, dd_BadOrder, m0_BadOrder, m1_BadOrder, m2_BadOrder, m3_BadOrder, m5_BadOrder, xL_BadOrder, (show PySem.HandSPX.refsVE [.type "ValueError", .type "Exception", .type "BaseException", .type "object"] = true by decide +kernel)⟩, sa_BadOrder, ex_BadOrder, ty_BadOrder, kp_BadOrder⟩
  let X_BadOrder : Xn l.prog w K mg base "BadOrder" ["what", "name"] := ⟨C_BadOrder, f0, _, ["self", "what", "name"], To_BadOrder, in_BadOrder, ti_BadOrder, ok_xorder F0 A_AskedError To_BadOrder na_BadOrder_what na_BadOrder_name, b0, PySem.W.mg_of X G aC_BadOrder, ⟨xa_BadOrder, xg_BadOrder, ex_BadOrder, hd_BadOrder⟩, (by simp only [List.forall_mem_cons]; exact ⟨na_BadOrder_what, na_BadOrder_name, fun _ h => nomatch h⟩), exm_self ex_BadOrder ic_BadOrder ty_BadOrder sc_BadOrder⟩
  have F1 := fun_mk (st := s_BadText___init) l1 c1 k1
  have b1 := F1.binds (ps := ["self", "row"]) fun _ _ _ _ _ _ us hl => match us, hl with | [_, _], _ => rfl
  have To_BadText : OexC K C_BadText := ⟨⟨nm_BadText, q_BadText, N_BadText, bs_BadText, _, sn_BadText, sub_BadText, ab_BadText, col_BadText, dd_BadText, m0_BadText, m1_BadText, m2_BadText, m3_BadText, m5_BadText, xL_BadText, (show PySem.HandSPX.refsVE [.type "ValueError", .type "Exception", .type "BaseException", .type "object"] = true by decide +kernel)⟩, sa_BadText, ex_BadText, ty_BadText, kp_BadText⟩
  let X_BadText : Xn l.prog w K mg base "BadText" ["row"] := ⟨C_BadText, f1, _, ["self", "row"], To_BadText, in_BadText, ti_BadText, ok_xtext F1 A_AskedError To_BadText na_BadText_row, b1, PySem.W.mg_of X G aC_BadText, ⟨xa_BadText, xg_BadText, ex_BadText, hd_BadText⟩, (by simp only [List.forall_mem_cons]; exact ⟨na_BadText_row, fun _ h => nomatch h⟩), exm_self ex_BadText ic_BadText ty_BadText sc_BadText⟩
  have F2 := fun_mk (st := s_BadWorld___init) l2 c2 k2
  have b2 := F2.binds (ps := ["self", "what"]) fun _ _ _ _ _ _ us hl => match us, hl with | [_, _], _ => rfl
  have To_BadWorld : OexC K C_BadWorld := ⟨⟨nm_BadWorld, q_BadWorld, N_BadWorld, bs_BadWorld, _, sn_BadWorld, sub_BadWorld, ab_BadWorld, col_BadWorld, dd_BadWorld, m0_BadWorld, m1_BadWorld, m2_BadWorld, m3_BadWorld, m5_BadWorld, xL_BadWorld, (show PySem.HandSPX.refsVE [.type "ValueError", .type "Exception", .type "BaseException", .type "object"] = true by decide +kernel)⟩, sa_BadWorld, ex_BadWorld, ty_BadWorld, kp_BadWorld⟩
  let X_BadWorld : Xn l.prog w K mg base "BadWorld" ["what"] := ⟨C_BadWorld, f2, _, ["self", "what"], To_BadWorld, in_BadWorld, ti_BadWorld, ok_xworld F2 A_AskedError To_BadWorld na_BadWorld_what, b2, PySem.W.mg_of X G aC_BadWorld, ⟨xa_BadWorld, xg_BadWorld, ex_BadWorld, hd_BadWorld⟩, (by simp only [List.forall_mem_cons]; exact ⟨na_BadWorld_what, fun _ h => nomatch h⟩), exm_self ex_BadWorld ic_BadWorld ty_BadWorld sc_BadWorld⟩
  have F3 := fun_mk (st := s_is_whole) l3 c3 k3
  have b3 := F3.binds (ps := ["thing"]) fun _ _ _ _ _ _ us hl => match us, hl with | [_], _ => rfl
  let E_is_whole : Dn l.prog w K mg base "is_whole" 1 ["thing"] [] [] spWholeT := ⟨f3, _, ok_wholeT F3 T, PySem.W.mg_of X G a3, k3, b3, .nil⟩
  have F4 := fun_mk (st := s_is_name) l4 c4 k4
  have b4 := F4.binds (ps := ["thing"]) fun _ _ _ _ _ _ us hl => match us, hl with | [_], _ => rfl
  let E_is_name : Dn l.prog w K mg base "is_name" 1 ["thing"] [] [] spNameT := ⟨f4, _, ok_nameT F4 T2, PySem.W.mg_of X G a4, k4, b4, .nil⟩
  have F5 : FunD K "__init__" "Event.__init__" (defArgs s_Event___init) (defBody s_Event___init) (defScope s_Event___init) [.ref E0] [] f5 _ := ⟨⟨_, _, _, _, _, _, _, _, _, _, rfl, l5, c5, .inr ⟨by simp, TT5, _, [.ref E0], nT5, rfl, lT5, rfl, .cons rfl .nil⟩, .inl rfl⟩, k5⟩
  obtain ⟨dwM_Event3, hvM_Event3, bM_Event3⟩ := F5.binds1 (ps := ["self", "name", "end", "kind", "needs"]) 4 0 (by simp) rfl fun T kV doc pm an cdv ct us its h1 h2 => match us, its, h1, h2 with | [x0, x1, x2, x3], [y0], _, _ => ⟨_, rfl, rfl⟩
  let M_Event3 : Mn l.prog w K mg base "Event" 1 ["self", "name", "end", "kind", "needs"] [.ref E0] dwM_Event3 spEvX := ⟨C_Event, f5, _, ⟨mk_Event, in_Event, fn_Event, kp_Event⟩, Cl_Event, ok_event F5 T TE, PySem.W.mg_of X G aC_Event, bM_Event3, hvM_Event3⟩
  obtain ⟨dwM_Event4, hvM_Event4, bM_Event4⟩ := F5.binds1 (ps := ["self", "name", "end", "kind", "needs"]) 5 1 (by simp) rfl fun T kV doc pm an cdv ct us its h1 h2 => match us, its, h1, h2 with | [x0, x1, x2, x3, x4], [y0], _, _ => ⟨_, rfl, rfl⟩
  cases hvM_Event4
  let M_Event4 : Mn l.prog w K mg base "Event" 1 ["self", "name", "end", "kind", "needs"] [] [] spEvX := ⟨C_Event, f5, _, ⟨mk_Event, in_Event, fn_Event, kp_Event⟩, Cl_Event, ok_event F5 T TE, PySem.W.mg_of X G aC_Event, bM_Event4, .nil⟩
  have F6 := fun_mk (st := s_Event___eq) l6 c6 k6
  have b6 := F6.binds (ps := ["self", "other"]) fun _ _ _ _ _ _ us hl => match us, hl with | [_, _], _ => rfl
  let O_Event : On l.prog w K mg base C_Event 1 ["self", "other"] (spEqE C_Event) := ⟨f6, _, ⟨oe_Event, of_Event, on_Event, om_Event⟩, ok_eqE F6 T TE TI_Event gC_Event, b6⟩
  have F7 := fun_mk (st := s_event_fault) l7 c7 k7
  have b7 := F7.binds (ps := ["event", "elder"]) fun _ _ _ _ _ _ us hl => match us, hl with | [_, _], _ => rfl
  let E_event_fault : Dn l.prog w K mg base "event_fault" 2 ["event", "elder"] [] [] (spFaultX C_Event) := ⟨f7, _, ok_faultX F7 T3 TE E_is_name E_is_whole, PySem.W.mg_of X G a7, k7, b7, .nil⟩
  have F8 := fun_mk (st := s_Order___init) l8 c8 k8
  have b8 := F8.binds (ps := ["self", "events"]) fun _ _ _ _ _ _ us hl => match us, hl with | [_, _], _ => rfl
  let R_Order : Mnx l.prog w K mg base C_Order "Order" 3 ["self", "events"] [] [] (spOrderX C_BadOrder C_Event) := ⟨f8, _, ⟨mk_Order, in_Order, fn_Order, kp_Order⟩, Cl_Order, ok_orderX F8 T4 TO TE X_BadOrder E_event_fault, PySem.W.mg_of X G aC_Order, b8, .nil⟩
  have F9 := fun_mk (st := s_Order___eq) l9 c9 k9
  have b9 := F9.binds (ps := ["self", "other"]) fun _ _ _ _ _ _ us hl => match us, hl with | [_, _], _ => rfl
  let O_Order : On l.prog w K mg base C_Order 3 ["self", "other"] (spEqO C_Order C_Event) := ⟨f9, _, ⟨oe_Order, of_Order, on_Order, om_Order⟩, ok_eqO F9 T TO TI_Order gC_Order O_Event, b9⟩
  have F10 := fun_mk (st := s_Order___iter) l10 c10 k10
  have b10 := F10.binds (ps := ["self"]) fun _ _ _ _ _ _ us hl => match us, hl with | [_], _ => rfl
  let I_Order : ItOwn l.prog w K mg base C_Order "events" 1 := ⟨f10, it_Order, itf_Order, ok_iterO F10 b_iter TO b10⟩
  have F11 := fun_mk (st := s_Order___len) l11 c11 k11
  have b11 := F11.binds (ps := ["self"]) fun _ _ _ _ _ _ us hl => match us, hl with | [_], _ => rfl
  let N_Order : Ln l.prog w K mg base C_Order 1 ["self"] (spLenO C_Order C_Event) := ⟨f11, _, ln_Order, lnf_Order, ok_lenO F11 T TO, b11⟩
  have F12 := fun_mk (st := s_law_bag) l12 c12 k12
  have b12 := F12.binds (ps := ["script"]) fun _ _ _ _ _ _ us hl => match us, hl with | [_], _ => rfl
  let E_law_bag : Dr l.prog w K mg base "_law_bag" 1 ["script"] (spBag K) := ⟨f12, _, ok_bag F12 T, PySem.W.mg_of X G a12, k12, b12, .nil⟩
  have F13 := fun_mk (st := s_law_draw) l13 c13 k13
  have b13 := F13.binds (ps := ["bag", "limit"]) fun _ _ _ _ _ _ us hl => match us, hl with | [_, _], _ => rfl
  let E_law_draw : Dn l.prog w K mg base "_law_draw" 1 ["bag", "limit"] [] [] spDraw := ⟨f13, _, ok_draw F13 T, PySem.W.mg_of X G a13, k13, b13, .nil⟩
  have F14 := fun_mk (st := s_law_names) l14 c14 k14
  have b14 := F14.binds (ps := ["bag", "many"]) fun _ _ _ _ _ _ us hl => match us, hl with | [_, _], _ => rfl
  let E_law_names : Dn l.prog w K mg base "_law_names" 2 ["bag", "many"] [] [] spNames := ⟨f14, _, ok_names F14 T E_law_draw, PySem.W.mg_of X G a14, k14, b14, .nil⟩
  have F15 := fun_mk (st := s_law_drawn) l15 c15 k15
  have b15 := F15.binds (ps := ["bag"]) fun _ _ _ _ _ _ us hl => match us, hl with | [_], _ => rfl
  let E_law_drawn : Dr l.prog w K mg base "_law_drawn" 3 ["bag"] (spT l.prog w K spDrawn) := ⟨f15, _, ok_drawn F15 T E_law_draw E_law_names, PySem.W.mg_of X G a15, k15, b15, .nil⟩
  have F16 := fun_mk (st := s_law_spoil) l16 c16 k16
  have b16 := F16.binds (ps := ["bag", "events"]) fun _ _ _ _ _ _ us hl => match us, hl with | [_, _], _ => rfl
  let E_law_spoil : Dr l.prog w K mg base "_law_spoil" 2 ["bag", "events"] (spS l.prog w K spSpoil) := ⟨f16, _, ok_spoil F16 T E_law_draw, PySem.W.mg_of X G a16, k16, b16, .nil⟩
  have F17 := fun_mk (st := s_law_is_name) l17 c17 k17
  have b17 := F17.binds (ps := ["thing"]) fun _ _ _ _ _ _ us hl => match us, hl with | [_], _ => rfl
  let E_law_is_name : Dn l.prog w K mg base "_law_is_name" 1 ["thing"] [] [] spNameT := ⟨f17, _, ok_lname F17 T, PySem.W.mg_of X G a17, k17, b17, .nil⟩
  have F18 := fun_mk (st := s_law_fault) l18 c18 k18
  have b18 := F18.binds (ps := ["events"]) fun _ _ _ _ _ _ us hl => match us, hl with | [_], _ => rfl
  let E_law_fault : Dn l.prog w K mg base "_law_fault" 2 ["events"] [] [] spFaultL := ⟨f18, _, ok_faultL F18 T E_law_is_name, PySem.W.mg_of X G a18, k18, b18, .nil⟩
  have F19 := fun_mk (st := s_law_errors_right) l19 c19 k19
  have b19 := F19.binds (ps := []) fun _ _ _ _ _ _ us hl => match us, hl with | [], _ => rfl
  let E_law_errors_right : Dn l.prog w K mg base "_law_errors_right" 3 [] [] [] spErr := ⟨f19, _, ok_errs F19 T b_ValueError A_AskedError.2 X_BadOrder X_BadText X_BadWorld kE_BadOrder kE_BadText kE_BadWorld nT_ nO_, PySem.W.mg_of X G a19, k19, b19, .nil⟩
  have F20 := fun_mk (st := s_law_last_first) l20 c20 k20
  have b20 := F20.binds (ps := ["bag"]) fun _ _ _ _ _ _ us hl => match us, hl with | [_], _ => rfl
  let E_law_last_first : Dr l.prog w K mg base "_law_last_first" 1 ["bag"] spNewBag := ⟨f20, _, ok_lastfirst F20 T, PySem.W.mg_of X G a20, k20, b20, .nil⟩
  have F21 := fun_mk (st := s_law_order_word) l21 c21 k21
  have b21 := F21.binds (ps := ["events"]) fun _ _ _ _ _ _ us hl => match us, hl with | [_], _ => rfl
  let E_law_order_word : Dn l.prog w K mg base "_law_order_word" 5 ["events"] [] [] (spWord C_Event) := ⟨f21, _, ok_word F21 T X_BadOrder R_Order N_Order, PySem.W.mg_of X G a21, k21, b21, .nil⟩
  have F22 := fun_mk (st := s_law_odd_needs) l22 c22 k22
  have b22 := F22.binds (ps := ["bag"]) fun _ _ _ _ _ _ us hl => match us, hl with | [_], _ => rfl
  let E_law_odd_needs : Dn l.prog w K mg base "_law_odd_needs" 6 ["bag"] [] [] spOdd := ⟨f22, _, ok_odd F22 T hE0 M_Event3 M_Event4 rfl rfl E_law_draw E_law_order_word, PySem.W.mg_of X G a22, k22, b22, .nil⟩
  exact ok_law (fun_mk (st := s_law) l23 c23 k23) T TO TE X_BadOrder M_Event4 rfl R_Order I_Order N_Order O_Event O_Order E_law_bag E_law_drawn E_law_spoil E_law_fault E_law_errors_right E_law_odd_needs E_law_last_first
theorem walk {l : PySem.W.OpenLaw} {q : Program} {loose : List Str} {XP : (Str → Option Value) → Heap → Prop} {YP : World → Heap → Prop} {d : DefRec} {K : Params → PySem.W.Frag} (hn : l.most = some 63) (hdf : d.params.defaults = [])
    (hY : ∀ (w : World) (h : Heap), YP w h → (K w.params).In h)
    (F : ∀ (w : World) (mg : Str → Option Value) (fa : Addr) (h : Heap), (K w.params).In h → h.Ns mainGlobals mg → mg d.name = some (.ref fa) →
      ∃ fd : FuncData, (∀ (s : Shared) (u : Value), BindsTo s fd ⟨[u], []⟩ [("script", u)]) ∧ ∀ base : Heap, (K w.params).In base → base.Ns mainGlobals mg → FnOk l.prog w (K w.params) mg base CX0 7 fa fd ["script"] (spLaw (K w.params))) :
    PySem.W.WalkO q loose XP YP l.row.toRowW d [] (fun f vs => PySem.call f vs) :=
  L2.walk_of (n := 63) (k := 7) (x := "script") (CX := fun _ => CX0) (sp := fun w => spLaw (K w.params)) hn (by decide) hdf ⟨rfl, by decide, by decide⟩ hY F (fun _ _ a ns hl _ hS => ⟨a, ns, rfl, hS, hl, fun _ => rfl⟩) fun _ _ _ _ _ z => z
end Toy
open PySem PySem.W PyProof.Rows in
set_option maxRecDepth 100000 in
set_option maxHeartbeats 0 in
theorem PySem.Challenge.cw_askedtrue_k06_orders_refused_word_by_wor_holds : PySem.Challenge.rw_askedtrue_k06_orders_refused_word_by_wor.Holds := by
  w_on; o_law; k_head; (case hw => w_witness2)
  k_fill
  refine Toy.walk (l := PySem.Challenge.rw_askedtrue_k06_orders_refused_word_by_wor) rfl rfl (fun w h Y => PySem.W.kIn_of Y) ?F
  case F =>
    intro w mg fa h KX G hmg
    refine' Toy.all_mk KX G hmg ?aC_Event ?pg_Event ?hd_Event ?po_Event ?sa_Event ?na_Event_name ?na_Event_end ?na_Event_kind ?na_Event_needs ?mk_Event ?in_Event ?fn_Event ?kp_Event ?oe_Event ?of_Event ?on_Event ?om_Event ?i1_Event ?aC_Order ?pg_Order ?hd_Order ?po_Order ?sa_Order ?na_Order_events ?mk_Order ?in_Order ?fn_Order ?kp_Order ?oe_Order ?of_Order ?on_Order ?om_Order ?ln_Order ?lnf_Order ?it_Order ?itf_Order ?i1_Order ?i2_ ?i3_ ?aC_AskedError ?rd_AskedError ?ga_AskedError ?vi_AskedError ?aC_BadOrder ?xL_BadOrder ?sa_BadOrder ?xa_BadOrder ?xg_BadOrder ?na_BadOrder_what ?na_BadOrder_name ?in_BadOrder ?ti_BadOrder ?kp_BadOrder ?ex_BadOrder ?ty_BadOrder ?hd_BadOrder ?ic_BadOrder ?sc_BadOrder ?aC_BadText ?xL_BadText ?sa_BadText ?xa_BadText ?xg_BadText ?na_BadText_row ?in_BadText ?ti_BadText ?kp_BadText ?ex_BadText ?ty_BadText ?hd_BadText ?ic_BadText ?sc_BadText ?aC_BadWorld ?xL_BadWorld ?sa_BadWorld ?xa_BadWorld ?xg_BadWorld ?na_BadWorld_what ?in_BadWorld ?ti_BadWorld ?kp_BadWorld ?ex_BadWorld ?ty_BadWorld ?hd_BadWorld ?ic_BadWorld ?sc_BadWorld ?l0 ?c0 ?k0 ?l1 ?c1 ?k1 ?l2 ?c2 ?k2 ?a3 ?l3 ?c3 ?k3 ?a4 ?l4 ?c4 ?k4 ?l5 ?c5 ?k5 ?lT5 ?l6 ?c6 ?k6 ?a7 ?l7 ?c7 ?k7 ?l8 ?c8 ?k8 ?l9 ?c9 ?k9 ?l10 ?c10 ?k10 ?l11 ?c11 ?k11 ?a12 ?l12 ?c12 ?k12 ?a13 ?l13 ?c13 ?k13 ?a14 ?l14 ?c14 ?k14 ?a15 ?l15 ?c15 ?k15 ?a16 ?l16 ?c16 ?k16 ?a17 ?l17 ?c17 ?k17 ?a18 ?l18 ?c18 ?k18 ?a19 ?l19 ?c19 ?k19 ?a20 ?l20 ?c20 ?k20 ?a21 ?l21 ?c21 ?k21 ?a22 ?l22 ?c22 ?k22 ?a23 ?l23 ?c23 ?k23 ?zLETTERS ?zSIGNS ?zENDS ?zNEEDS ?zEVENTS ?zKINDS ?lK ?lE0 ?ic_A ?ty_A ?xc_BadOrder ?xm_BadOrder ?ka_BadOrder ?kv_BadOrder ?xc_BadText ?xm_BadText ?ka_BadText ?kv_BadText ?xc_BadWorld ?xm_BadWorld ?ka_BadWorld ?kv_BadWorld ?sn_BadText_BadOrder ?sn_BadText_BadWorld ?sn_BadOrder_BadText ?sn_BadOrder_BadWorld ?z2_iter ?z2_ValueError ?z_len ?z_abs ?z_sum ?z_max ?z_min ?z_all ?z_any ?z_sorted ?z_isinstance ?z_int ?z_bool ?z_str ?z_list ?z_tuple ?z_range ?z_enumerate ?z_dict
    (case aC_Event => k_is)
    (case pg_Event => k_is)
    (case hd_Event => k_is)
    (case po_Event => k_is)
    (case sa_Event => k_is)
    (case na_Event_name => k_is)
    (case na_Event_end => k_is)
    (case na_Event_kind => k_is)
    (case na_Event_needs => k_is)
    (case mk_Event => k_is)
    (case in_Event => k_is)
    (case fn_Event => k_is)
    (case kp_Event => k_is)
    (case oe_Event => k_is)
    (case of_Event => k_is)
    (case on_Event => k_is)
    (case om_Event => k_is)
    (case i1_Event => k_is)
    (case aC_Order => k_is)
    (case pg_Order => k_is)
    (case hd_Order => k_is)
    (case po_Order => k_is)
    (case sa_Order => k_is)
    (case na_Order_events => k_is)
    (case mk_Order => k_is)
    (case in_Order => k_is)
    (case fn_Order => k_is)
    (case kp_Order => k_is)
    (case oe_Order => k_is)
    (case of_Order => k_is)
    (case on_Order => k_is)
    (case om_Order => k_is)
    (case ln_Order => k_is)
    (case lnf_Order => k_is)
    (case it_Order => k_is)
    (case itf_Order => k_is)
    (case i1_Order => k_is)
    (case i2_ => k_is)
    (case i3_ => k_is)
    (case aC_AskedError => k_is)
    (case rd_AskedError => k_is)
    (case ga_AskedError => k_is)
    (case vi_AskedError => k_is)
    (case aC_BadOrder => k_is)
    (case xL_BadOrder => k_is)
    (case sa_BadOrder => k_is)
    (case xa_BadOrder => k_is)
    (case xg_BadOrder => k_is)
    (case na_BadOrder_what => k_is)
    (case na_BadOrder_name => k_is)
    (case in_BadOrder => k_is)
    (case ti_BadOrder => k_is)
    (case kp_BadOrder => k_is)
    (case ex_BadOrder => k_is)
    (case ty_BadOrder => k_is)
    (case hd_BadOrder => k_is)
    (case ic_BadOrder => k_is)
    (case sc_BadOrder => k_is)
    (case aC_BadText => k_is)
    (case xL_BadText => k_is)
    (case sa_BadText => k_is)
    (case xa_BadText => k_is)
    (case xg_BadText => k_is)
    (case na_BadText_row => k_is)
    (case in_BadText => k_is)
    (case ti_BadText => k_is)
    (case kp_BadText => k_is)
    (case ex_BadText => k_is)
    (case ty_BadText => k_is)
    (case hd_BadText => k_is)
    (case ic_BadText => k_is)
    (case sc_BadText => k_is)
    (case aC_BadWorld => k_is)
    (case xL_BadWorld => k_is)
    (case sa_BadWorld => k_is)
    (case xa_BadWorld => k_is)
    (case xg_BadWorld => k_is)
    (case na_BadWorld_what => k_is)
    (case in_BadWorld => k_is)
    (case ti_BadWorld => k_is)
    (case kp_BadWorld => k_is)
    (case ex_BadWorld => k_is)
    (case ty_BadWorld => k_is)
    (case hd_BadWorld => k_is)
    (case ic_BadWorld => k_is)
    (case sc_BadWorld => k_is)
    (case l0 => k_is)
    (case c0 => k_is)
    (case k0 => k_is)
    (case l1 => k_is)
    (case c1 => k_is)
    (case k1 => k_is)
    (case l2 => k_is)
    (case c2 => k_is)
    (case k2 => k_is)
    (case a3 => k_is)
    (case l3 => k_is)
    (case c3 => k_is)
    (case k3 => k_is)
    (case a4 => k_is)
    (case l4 => k_is)
    (case c4 => k_is)
    (case k4 => k_is)
    (case l5 => k_is)
    (case c5 => k_is)
    (case k5 => k_is)
    (case lT5 => k_is)
    (case l6 => k_is)
    (case c6 => k_is)
    (case k6 => k_is)
    (case a7 => k_is)
    (case l7 => k_is)
    (case c7 => k_is)
    (case k7 => k_is)
    (case l8 => k_is)
    (case c8 => k_is)
    (case k8 => k_is)
    (case l9 => k_is)
    (case c9 => k_is)
    (case k9 => k_is)
    (case l10 => k_is)
    (case c10 => k_is)
    (case k10 => k_is)
    (case l11 => k_is)
    (case c11 => k_is)
    (case k11 => k_is)
    (case a12 => k_is)
    (case l12 => k_is)
    (case c12 => k_is)
    (case k12 => k_is)
    (case a13 => k_is)
    (case l13 => k_is)
    (case c13 => k_is)
    (case k13 => k_is)
    (case a14 => k_is)
    (case l14 => k_is)
    (case c14 => k_is)
    (case k14 => k_is)
    (case a15 => k_is)
    (case l15 => k_is)
    (case c15 => k_is)
    (case k15 => k_is)
    (case a16 => k_is)
    (case l16 => k_is)
    (case c16 => k_is)
    (case k16 => k_is)
    (case a17 => k_is)
    (case l17 => k_is)
    (case c17 => k_is)
    (case k17 => k_is)
    (case a18 => k_is)
    (case l18 => k_is)
    (case c18 => k_is)
    (case k18 => k_is)
    (case a19 => k_is)
    (case l19 => k_is)
    (case c19 => k_is)
    (case k19 => k_is)
    (case a20 => k_is)
    (case l20 => k_is)
    (case c20 => k_is)
    (case k20 => k_is)
    (case a21 => k_is)
    (case l21 => k_is)
    (case c21 => k_is)
    (case k21 => k_is)
    (case a22 => k_is)
    (case l22 => k_is)
    (case c22 => k_is)
    (case k22 => k_is)
    (case a23 => k_is)
    (case l23 => k_is)
    (case c23 => k_is)
    (case k23 => k_is)
    (case zLETTERS => k_is)
    (case zSIGNS => k_is)
    (case zENDS => k_is)
    (case zNEEDS => k_is)
    (case zEVENTS => k_is)
    (case zKINDS => k_is)
    (case lK => k_is)
    (case lE0 => k_is)
    (case ic_A => k_is)
    (case ty_A => k_is)
    (case xc_BadOrder => k_is)
    (case xm_BadOrder => k_is)
    (case ka_BadOrder => k_is)
    (case kv_BadOrder => k_is)
    (case xc_BadText => k_is)
    (case xm_BadText => k_is)
    (case ka_BadText => k_is)
    (case kv_BadText => k_is)
    (case xc_BadWorld => k_is)
    (case xm_BadWorld => k_is)
    (case ka_BadWorld => k_is)
    (case kv_BadWorld => k_is)
    (case sn_BadText_BadOrder => k_is)
    (case sn_BadText_BadWorld => k_is)
    (case sn_BadOrder_BadText => k_is)
    (case sn_BadOrder_BadWorld => k_is)
    (case z2_iter => k_is)
    (case z2_ValueError => k_is)
    (case z_len => k_is)
    (case z_abs => k_is)
    (case z_sum => k_is)
    (case z_max => k_is)
    (case z_min => k_is)
    (case z_all => k_is)
    (case z_any => k_is)
    (case z_sorted => k_is)
    (case z_isinstance => k_is)
    (case z_int => k_is)
    (case z_bool => k_is)
    (case z_str => k_is)
    (case z_list => k_is)
    (case z_tuple => k_is)
    (case z_range => k_is)
    (case z_enumerate => k_is)
    (case z_dict => k_is)
