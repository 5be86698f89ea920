import PyProof.Rows.All
import Wide.All
import OpenK.AllK
import Wide.FinOn
import HandS.ForMost
import HandS.Wide
import KE.KDictKeyed
import KE.KeyNested
import HandS.IsInst
import HandS.Deep
import HandS.TupAny
import KE.SortData
import HandS.Steps
import KE.KDictSum
import PySem.Challenge.RW_askedtrue_k23_whole_sure_in_all_ways_to
import HandS.Defaults
set_option Elab.async false
set_option linter.all false
set_option maxRecDepth 100000
set_option maxHeartbeats 4000000
/-! L3: data in place of heaps: what a reading hands on, said of plain data. -/
namespace L3
open PySem L2

/-! ### data -/
inductive D where
  | non | bl (b : Bool) | int (i : Int) | str (s : Str) | lst (xs : List D) | tup (xs : List D) | obj (C : Addr) (fs : List (Str × D)) | adr (a : Addr) | ty (n : String)

mutual
inductive Rp (K : PySem.W.Frag) (H : Hp) : V → D → Prop
  | non : Rp K H .non .non
  | bl (b : Bool) : Rp K H (.bl b) (.bl b)
  | int (i : Int) : Rp K H (.int i) (.int i)
  | str (x : Str) : Rp K H (.str x) (.str x)
  | lst {a : Addr} {xs : List V} {ds : List D} : Rd H a (.lst xs) → RpAll K H xs ds → Rp K H (.ref a) (.lst ds)
  | tup {a : Addr} {xs : List V} {ds : List D} : SqT K H a xs → RpAll K H xs ds → Rp K H (.ref a) (.tup ds)
  | obj {a C dx : Addr} {fs : List (Str × V)} {ds : List (Str × D)} : H a = some (.ins C dx fs) → RpFs K H fs ds → Rp K H (.ref a) (.obj C ds)
  | adr (a : Addr) : Rp K H (.ref a) (.adr a)
  | ty (n : String) : Rp K H (.ty n) (.ty n)
inductive RpAll (K : PySem.W.Frag) (H : Hp) : List V → List D → Prop
  | nil : RpAll K H [] []
  | cons {v : V} {vs : List V} {d : D} {ds : List D} : Rp K H v d → RpAll K H vs ds → RpAll K H (v :: vs) (d :: ds)
inductive RpFs (K : PySem.W.Frag) (H : Hp) : List (Str × V) → List (Str × D) → Prop
  | nil : RpFs K H [] []
  | cons {x : Str} {v : V} {vs : List (Str × V)} {d : D} {ds : List (Str × D)} : Rp K H v d → RpFs K H vs ds → RpFs K H ((x, v) :: vs) ((x, d) :: ds)
end

theorem same_rd {H H' : Hp} {a : Addr} {u : HO} (e : Same H H') (h : Rd H a u) : Rd H' a u := by
  rcases h with h | ⟨o, h⟩
  · exact .inl (e a _ h)
  · exact .inr ⟨o, e a _ h⟩
theorem same_l {K : PySem.W.Frag} {H H' : Hp} {a : Addr} {xs : List V} (e : Same H H') (h : SqL K H a xs) : SqL K H' a xs := by
  rcases h with h | h
  · exact .inl (same_rd e h)
  · exact .inr h
theorem same_t {K : PySem.W.Frag} {H H' : Hp} {a : Addr} {xs : List V} (e : Same H H') (h : SqT K H a xs) : SqT K H' a xs := by
  rcases h with h | h
  · exact .inl (same_rd e h)
  · exact .inr h

section
variable {K : PySem.W.Frag} {H H' : Hp}
mutual
theorem Rp.mono (e : Same H H') : ∀ {v : V} {d : D}, Rp K H v d → Rp K H' v d
  | _, _, .non => .non
  | _, _, .bl b => .bl b
  | _, _, .int i => .int i
  | _, _, .str x => .str x
  | _, _, .lst h r => .lst (same_rd e h) (RpAll.mono e r)
  | _, _, .tup h r => .tup (same_t e h) (RpAll.mono e r)
  | _, _, .obj h r => .obj (e _ _ h) (RpFs.mono e r)
  | _, _, .adr a => .adr a
  | _, _, .ty n => .ty n
theorem RpAll.mono (e : Same H H') : ∀ {vs : List V} {ds : List D}, RpAll K H vs ds → RpAll K H' vs ds
  | _, _, .nil => .nil
  | _, _, .cons h r => .cons (Rp.mono e h) (RpAll.mono e r)
theorem RpFs.mono (e : Same H H') : ∀ {vs : List (Str × V)} {ds : List (Str × D)}, RpFs K H vs ds → RpFs K H' vs ds
  | _, _, .nil => .nil
  | _, _, .cons h r => .cons (Rp.mono e h) (RpFs.mono e r)
end
theorem RpAll.length : ∀ {vs : List V} {ds : List D}, RpAll K H vs ds → vs.length = ds.length
  | _, _, .nil => rfl
  | _, _, .cons _ r => by rw [List.length_cons, List.length_cons, RpAll.length r]
theorem RpAll.get : ∀ {vs : List V} {ds : List D} {i : Nat} {v : V}, RpAll K H vs ds → vs[i]? = some v → ∃ d, ds[i]? = some d ∧ Rp K H v d
  | _, _, _, _, .nil, e => by simp at e
  | _, _, 0, _, .cons h _, e => by simp at e; subst e; exact ⟨_, rfl, h⟩
  | _, _, i + 1, _, .cons _ r, e => by
    obtain ⟨d, h1, h2⟩ := RpAll.get (i := i) r (by simpa using e)
    exact ⟨d, by simpa using h1, h2⟩
theorem RpAll.get' : ∀ {vs : List V} {ds : List D} {i : Nat} {d : D}, RpAll K H vs ds → ds[i]? = some d → ∃ v, vs[i]? = some v ∧ Rp K H v d
  | _, _, _, _, .nil, e => by simp at e
  | _, _, 0, _, .cons h _, e => by simp at e; subst e; exact ⟨_, rfl, h⟩
  | _, _, i + 1, _, .cons _ r, e => by
    obtain ⟨d, h1, h2⟩ := RpAll.get' (i := i) r (by simpa using e)
    exact ⟨d, by simpa using h1, h2⟩
theorem RpAll.append : ∀ {vs ws : List V} {ds es : List D}, RpAll K H vs ds → RpAll K H ws es → RpAll K H (vs ++ ws) (ds ++ es)
  | _, _, _, _, .nil, s => s
  | _, _, _, _, .cons h r, s => .cons h (RpAll.append r s)
theorem RpAll.take : ∀ {vs : List V} {ds : List D} (n : Nat), RpAll K H vs ds → RpAll K H (vs.take n) (ds.take n)
  | _, _, 0, _ => .nil
  | _, _, _ + 1, .nil => .nil
  | _, _, n + 1, .cons h r => .cons h (RpAll.take n r)
theorem RpAll.drop : ∀ {vs : List V} {ds : List D} (n : Nat), RpAll K H vs ds → RpAll K H (vs.drop n) (ds.drop n)
  | _, _, 0, r => r
  | _, _, _ + 1, .nil => .nil
  | _, _, n + 1, .cons _ r => RpAll.drop n r
theorem RpAll.set {v : V} {d : D} (h : Rp K H v d) : ∀ {vs : List V} {ds : List D} (i : Nat), RpAll K H vs ds → RpAll K H (vs.set i v) (ds.set i d)
  | _, _, _, .nil => .nil
  | _, _, 0, .cons _ r => .cons h r
  | _, _, i + 1, .cons q r => .cons q (RpAll.set h i r)
theorem RpAll.eraseIdx : ∀ {vs : List V} {ds : List D} (i : Nat), RpAll K H vs ds → RpAll K H (vs.eraseIdx i) (ds.eraseIdx i)
  | _, _, _, .nil => .nil
  | _, _, 0, .cons _ r => r
  | _, _, i + 1, .cons q r => .cons q (RpAll.eraseIdx i r)
theorem RpAll.ints : ∀ {vs : List V} {ns : List Int}, RpAll K H vs (ns.map D.int) → vs = ns.map V.int
  | _, [], h => by cases h; rfl
  | _, n :: ns, h => by
    cases h with
    | cons h r => cases h; rw [RpAll.ints r]; rfl
theorem RpAll.ofInts : ∀ (ns : List Int), RpAll K H (ns.map V.int) (ns.map D.int)
  | [] => .nil
  | n :: ns => .cons (.int n) (RpAll.ofInts ns)
end

/-! ### hidden addresses -/
def hid (O : List Addr) (H : Hp) : Hp := fun a => if a ∈ O then none else H a
theorem hid_in {O : List Addr} {H : Hp} {a : Addr} (h : a ∈ O) : hid O H a = none := if_pos h
theorem hid_out {O : List Addr} {H : Hp} {a : Addr} (h : a ∉ O) : hid O H a = H a := if_neg h
theorem hid_some {O : List Addr} {H : Hp} {a : Addr} {o : HO} : hid O H a = some o ↔ a ∉ O ∧ H a = some o := by
  unfold hid
  by_cases h : a ∈ O
  · rw [if_pos h]; exact ⟨(fun e => nomatch e), fun e => absurd h e.1⟩
  · rw [if_neg h]; exact ⟨fun e => ⟨h, e⟩, fun e => e.2⟩
theorem hid_nil {H : Hp} : hid [] H = H := by
  funext a; exact hid_out (by simp)
theorem same_hid {O : List Addr} {H : Hp} : Same (hid O H) H := fun a o e => (hid_some.mp e).2
theorem same_hid_sub {O O' : List Addr} {H : Hp} (h : ∀ a, a ∈ O → a ∈ O') : Same (hid O' H) (hid O H) := fun a o e => by
  obtain ⟨h1, h2⟩ := hid_some.mp e
  exact hid_some.mpr ⟨fun q => h1 (h a q), h2⟩
theorem same_hid_of {O : List Addr} {H H' : Hp} (e : Same H H') : Same (hid O H) (hid O H') := fun a o q => by
  obtain ⟨h1, h2⟩ := hid_some.mp q
  exact hid_some.mpr ⟨h1, e a o h2⟩
/-- hiding more of two heaps that agree -/
theorem same_hid_more {O B : List Addr} {H H' : Hp} (h : ∀ a, a ∈ B → a ∈ O) (e : Same (hid B H) (hid B H')) : Same (hid O H) (hid O H') := fun a o q => by
  obtain ⟨h1, h2⟩ := hid_some.mp q
  exact hid_some.mpr ⟨h1, (hid_some.mp (e a o (hid_some.mpr ⟨fun q => h1 (h a q), h2⟩))).2⟩
theorem hid_upd_in {O : List Addr} {H : Hp} {a : Addr} {o : HO} (h : a ∈ O) : hid O (upd H a o) = hid O H := by
  funext b
  unfold hid
  by_cases hb : b ∈ O
  · rw [if_pos hb, if_pos hb]
  · rw [if_neg hb, if_neg hb, upd_ne (fun e => hb (by rw [e]; exact h))]
theorem same_upd_new {H : Hp} {p : Addr} {o : HO} (h : H p = none) : Same H (upd H p o) := fun b u e => by
  rw [upd_ne (ne_of_none e h)]; exact e
theorem hid_new_in {O : List Addr} {H : Hp} {p : Addr} {o : HO} (h : H p = none) : hid (p :: O) (upd H p o) = hid O H := by
  funext b
  unfold hid
  by_cases hb : b = p
  · subst hb
    rw [if_pos List.mem_cons_self]
    by_cases h2 : b ∈ O
    · rw [if_pos h2]
    · rw [if_neg h2, h]
  · by_cases h2 : b ∈ O
    · rw [if_pos (List.mem_cons_of_mem _ h2), if_pos h2]
    · rw [if_neg (fun q => by rcases List.mem_cons.mp q with e | e; exact hb e; exact h2 e), if_neg h2, upd_ne hb]

/-! ### the bag: a list of a list of non-negative ints, a turn, a rest -/
def BagOk (b q : Addr) (n : Nat) (H : Hp) : Prop :=
  ∃ (t r : Int) (cs : List Int), H b = some (.lst [.ref q, .int t, .int r]) ∧ H q = some (.lst (cs.map V.int)) ∧ cs ≠ [] ∧ (∀ c ∈ cs, 0 ≤ c) ∧ cs.length ≤ 63 ∧ 0 ≤ t ∧ t ≤ n ∧ 0 ≤ r
theorem BagOk.move {b q : Addr} {n : Nat} {H H' : Hp} (h : BagOk b q n H) (e : ∀ o, H b = some o → H' b = some o) (e2 : ∀ o, H q = some o → H' q = some o) : BagOk b q n H' := by
  obtain ⟨t, r, cs, h1, h2, h3⟩ := h
  exact ⟨t, r, cs, e _ h1, e2 _ h2, h3⟩
theorem BagOk.le {b q : Addr} {n m : Nat} {H : Hp} (h : BagOk b q n H) (hn : n ≤ m) : BagOk b q m H := by
  obtain ⟨t, r, cs, h1, h2, h4, h5, h6, h7, h8, h9⟩ := h
  exact ⟨t, r, cs, h1, h2, h4, h5, h6, h7, by omega, h9⟩
theorem BagOk.lst {b q : Addr} {n : Nat} {H : Hp} (h : BagOk b q n H) : ∃ xs, H b = some (.lst xs) := by
  obtain ⟨t, r, cs, h1, _⟩ := h
  exact ⟨_, h1⟩

/-! ### the context, slots -/
structure Ctx where
  pr : Program
  wd : World
  K : PySem.W.Frag
  /-- owned by callers -/
  O : List Addr
  bag : Option (Addr × Addr)
  /-- the heap at the entry -/
  H0 : Hp
def Ctx.B (c : Ctx) : List Addr := (c.bag.map (·.1)).toList
def Ctx.J (c : Ctx) (n : Nat) (H : Hp) : Prop := ∀ b q, c.bag = some (b, q) → BagOk b q n H
inductive SD where
  | un
  | val (d : D)
  | own (ds : List D)
  | dic (kvs : List (D × D))
mutual
/-- a key of a dict as the library tells it -/
def nk : D → NestedKey
  | .int i => .num i
  | .str s => .text s
  | .tup xs => .tup (nkAll xs)
  | _ => .none
def nkAll : List D → List NestedKey
  | [] => []
  | x :: xs => nk x :: nkAll xs
end
mutual
def nkOk : D → Bool
  | .non => true
  | .int _ => true
  | .str _ => true
  | .tup xs => nkOkAll xs
  | _ => false
def nkOkAll : List D → Bool
  | [] => true
  | x :: xs => nkOk x && nkOkAll xs
end
/-- fit for a key of a dict -/
def keyD : D → Bool
  | .tup xs => nkOkAll xs && decide ((nk (.tup xs)).depth ≤ 8)
  | _ => false
def DictBare (pr : Program) (wd : World) (xs : List (NestedKey × Addr × Value)) (a : Addr) (h : Heap) : Prop :=
  ∃ o es ep, h.get? a = some o ∧ o.ExactDict ∧ o.data = .dict es ep ∧ es.toList = xs.map (entryOfKey (nestedKind pr wd)) ∧ (xs.map (·.1)).Nodup
/-- one entry -/
def EntD (K : PySem.W.Frag) (H : Hp) (kv : D × D) (x : NestedKey × Addr × Value) : Prop := keyD kv.1 = true ∧ x.1 = nk kv.1 ∧ Rp K H (.ref x.2.1) kv.1 ∧ ∃ v, RelV v x.2.2 ∧ Rp K H v kv.2
def NDict (pr : Program) (wd : World) (K : PySem.W.Frag) (O : List Addr) (H : Hp) (l : Addr) (kvs : List (D × D)) : Prop :=
  ∃ xs, H l = some (.ext (DictBare pr wd xs l)) ∧ (l == sysModules) = false ∧ Paired (EntD K (hid O H)) kvs xs
theorem EntD.mono {K : PySem.W.Frag} {H H' : Hp} {kv : D × D} {x : NestedKey × Addr × Value} (e : Same H H') (h : EntD K H kv x) : EntD K H' kv x := by
  obtain ⟨h1, h2, h3, v, h4, h5⟩ := h
  exact ⟨h1, h2, h3.mono e, v, h4, h5.mono e⟩
theorem Paired.imp' {α β : Type} {R S : α → β → Prop} (f : ∀ a b, R a b → S a b) : ∀ {xs : List α} {ys : List β}, Paired R xs ys → Paired S xs ys
  | _, _, .nil => .nil
  | _, _, .cons h t => .cons (f _ _ h) (Paired.imp' f t)
theorem NDict.move {pr : Program} {wd : World} {K : PySem.W.Frag} {O O' : List Addr} {H H' : Hp} {l : Addr} {kvs : List (D × D)} (h : NDict pr wd K O H l kvs) (hl : H' l = H l) (e : Same (hid O H) (hid O' H')) : NDict pr wd K O' H' l kvs := by
  obtain ⟨xs, h1, h2, h3⟩ := h
  exact ⟨xs, hl.trans h1, h2, Paired.imp' (fun _ _ q => q.mono e) h3⟩
inductive Slots (pr : Program) (wd : World) (K : PySem.W.Frag) (O : List Addr) (H : Hp) : List (Option V) → List SD → List Addr → Prop
  | nil : Slots pr wd K O H [] [] []
  | un {x : Option V} {σ : List (Option V)} {ρ : List SD} {L : List Addr} : Slots pr wd K O H σ ρ L → Slots pr wd K O H (x :: σ) (.un :: ρ) L
  | val {v : V} {d : D} {σ : List (Option V)} {ρ : List SD} {L : List Addr} : Rp K (hid O H) v d → Slots pr wd K O H σ ρ L → Slots pr wd K O H (some v :: σ) (.val d :: ρ) L
  | own {l : Addr} {xs : List V} {ds : List D} {σ : List (Option V)} {ρ : List SD} {L : List Addr} : H l = some (.lst xs) → RpAll K (hid O H) xs ds → Slots pr wd K O H σ ρ L → Slots pr wd K O H (some (.ref l) :: σ) (.own ds :: ρ) (l :: L)
  | dic {l : Addr} {kvs : List (D × D)} {σ : List (Option V)} {ρ : List SD} {L : List Addr} : NDict pr wd K O H l kvs → Slots pr wd K O H σ ρ L → Slots pr wd K O H (some (.ref l) :: σ) (.dic kvs :: ρ) (l :: L)
/-- P: what has been seen to stand for good -/
structure Env (c : Ctx) (P : Hp) (L : List Addr) (n : Nat) (H : Hp) (σ : List (Option V)) (ρ : List SD) : Prop where
  nd : L.Nodup
  fresh : ∀ l ∈ L, c.H0 l = none ∧ l ∉ c.O
  slots : ∃ Ls, Slots c.pr c.wd c.K (L ++ c.O) H σ ρ Ls ∧ Ls.Sublist L
  lst : ∀ l ∈ L, ∃ o, H l = some o
  bag : c.J n H
  base : Same (hid c.B c.H0) (hid c.B H)
  pers : Same P (hid (L ++ c.O) H)
  bO : ∀ b q, c.bag = some (b, q) → b ∈ c.O ∧ q ∈ c.O ∧ q ≠ b
  al : ∀ o ∈ c.O, H o ≠ none

section
variable {pr : Program} {wd : World} {K : PySem.W.Frag} {O O' : List Addr} {H H' : Hp} {σ : List (Option V)} {ρ : List SD} {L : List Addr}
theorem Slots.len (s : Slots pr wd K O H σ ρ L) : σ.length = ρ.length := by
  induction s with
  | nil => rfl
  | un _ ih => simp [ih]
  | val _ _ ih => simp [ih]
  | own _ _ _ ih => simp [ih]
  | dic _ _ ih => simp [ih]
/-- the owned lists stand, all else that may be seen stands -/
theorem Slots.move (s : Slots pr wd K O H σ ρ L) (hL : ∀ l ∈ L, H' l = H l) (e : Same (hid O H) (hid O' H')) : Slots pr wd K O' H' σ ρ L := by
  induction s with
  | nil => exact .nil
  | un _ ih => exact .un (ih hL)
  | val h _ ih => exact .val (h.mono e) (ih hL)
  | own h1 h2 _ ih => exact .own ((hL _ List.mem_cons_self).trans h1) (h2.mono e) (ih fun l hl => hL l (List.mem_cons_of_mem _ hl))
  | dic h1 _ ih => exact .dic (h1.move (hL _ List.mem_cons_self) e) (ih fun l hl => hL l (List.mem_cons_of_mem _ hl))
theorem Slots.get {d : D} : ∀ {σ : List (Option V)} {ρ : List SD} {L : List Addr} {i : Nat}, Slots pr wd K O H σ ρ L → ρ[i]? = some (.val d) → ∃ v, σ[i]? = some (some v) ∧ Rp K (hid O H) v d
  | _, _, _, _, .nil, e => by simp at e
  | _, _, _, 0, .un _, e => by simp at e
  | _, _, _, i + 1, .un s, e => by simpa using Slots.get (i := i) s (by simpa using e)
  | _, _, _, 0, .val h _, e => by simp at e; subst e; exact ⟨_, rfl, h⟩
  | _, _, _, i + 1, .val _ s, e => by simpa using Slots.get (i := i) s (by simpa using e)
  | _, _, _, 0, .own _ _ _, e => by simp at e
  | _, _, _, i + 1, .own _ _ s, e => by simpa using Slots.get (i := i) s (by simpa using e)
  | _, _, _, 0, .dic _ _, e => by simp at e
  | _, _, _, i + 1, .dic _ s, e => by simpa using Slots.get (i := i) s (by simpa using e)
theorem Slots.getO {ds : List D} : ∀ {σ : List (Option V)} {ρ : List SD} {L : List Addr} {i : Nat}, Slots pr wd K O H σ ρ L → ρ[i]? = some (.own ds) → ∃ l xs, σ[i]? = some (some (.ref l)) ∧ l ∈ L ∧ H l = some (.lst xs) ∧ RpAll K (hid O H) xs ds
  | _, _, _, _, .nil, e => by simp at e
  | _, _, _, 0, .un _, e => by simp at e
  | _, _, _, i + 1, .un s, e => by simpa using Slots.getO (i := i) s (by simpa using e)
  | _, _, _, 0, .val _ _, e => by simp at e
  | _, _, _, i + 1, .val _ s, e => by simpa using Slots.getO (i := i) s (by simpa using e)
  | _, _, _, 0, .own h r _, e => by simp at e; subst e; exact ⟨_, _, rfl, List.mem_cons_self, h, r⟩
  | _, _, _, i + 1, .own _ _ s, e => by
    obtain ⟨l, xs, h1, h2, h3⟩ := Slots.getO (i := i) s (by simpa using e)
    exact ⟨l, xs, by simpa using h1, List.mem_cons_of_mem _ h2, h3⟩
  | _, _, _, 0, .dic _ _, e => by simp at e
  | _, _, _, i + 1, .dic _ s, e => by
    obtain ⟨l, xs, h1, h2, h3⟩ := Slots.getO (i := i) s (by simpa using e)
    exact ⟨l, xs, by simpa using h1, List.mem_cons_of_mem _ h2, h3⟩
theorem Slots.getD {kvs : List (D × D)} : ∀ {σ : List (Option V)} {ρ : List SD} {L : List Addr} {i : Nat}, Slots pr wd K O H σ ρ L → ρ[i]? = some (.dic kvs) → ∃ l, σ[i]? = some (some (.ref l)) ∧ l ∈ L ∧ NDict pr wd K O H l kvs
  | _, _, _, _, .nil, e => by simp at e
  | _, _, _, 0, .un _, e => by simp at e
  | _, _, _, i + 1, .un s, e => by simpa using Slots.getD (i := i) s (by simpa using e)
  | _, _, _, 0, .val _ _, e => by simp at e
  | _, _, _, i + 1, .val _ s, e => by simpa using Slots.getD (i := i) s (by simpa using e)
  | _, _, _, 0, .own _ _ _, e => by simp at e
  | _, _, _, i + 1, .own _ _ s, e => by
    obtain ⟨l, h1, h2, h3⟩ := Slots.getD (i := i) s (by simpa using e)
    exact ⟨l, by simpa using h1, List.mem_cons_of_mem _ h2, h3⟩
  | _, _, _, 0, .dic h _, e => by simp at e; subst e; exact ⟨_, rfl, List.mem_cons_self, h⟩
  | _, _, _, i + 1, .dic _ s, e => by
    obtain ⟨l, h1, h2, h3⟩ := Slots.getD (i := i) s (by simpa using e)
    exact ⟨l, by simpa using h1, List.mem_cons_of_mem _ h2, h3⟩
/-- a slot forgotten -/
theorem Slots.drop : ∀ {σ : List (Option V)} {ρ : List SD} {L : List Addr} (i : Nat), Slots pr wd K O H σ ρ L → ∃ L', Slots pr wd K O H σ (ρ.set i .un) L' ∧ L'.Sublist L
  | _, _, _, _, .nil => ⟨[], .nil, List.Sublist.refl _⟩
  | _, _, _, 0, .un s => ⟨_, .un s, List.Sublist.refl _⟩
  | _, _, _, 0, .val _ s => ⟨_, .un s, List.Sublist.refl _⟩
  | _, _, _, 0, .own _ _ s => ⟨_, .un s, List.sublist_cons_self _ _⟩
  | _, _, _, i + 1, .un s => by
    obtain ⟨L', h1, h2⟩ := Slots.drop i s
    exact ⟨L', .un h1, h2⟩
  | _, _, _, i + 1, .val h s => by
    obtain ⟨L', h1, h2⟩ := Slots.drop i s
    exact ⟨L', .val h h1, h2⟩
  | _, _, _, i + 1, .own h r s => by
    obtain ⟨L', h1, h2⟩ := Slots.drop i s
    exact ⟨_ :: L', .own h r h1, h2.cons_cons _⟩
  | _, _, _, 0, .dic _ s => ⟨_, .un s, List.sublist_cons_self _ _⟩
  | _, _, _, i + 1, .dic h s => by
    obtain ⟨L', h1, h2⟩ := Slots.drop i s
    exact ⟨_ :: L', .dic h h1, h2.cons_cons _⟩
theorem Slots.set {v : V} {d : D} (hv : Rp K (hid O H) v d) : ∀ {σ : List (Option V)} {ρ : List SD} {L : List Addr} (i : Nat), Slots pr wd K O H σ ρ L → ∃ L', Slots pr wd K O H (σ.set i (some v)) (ρ.set i (.val d)) L' ∧ L'.Sublist L
  | _, _, _, _, .nil => ⟨[], .nil, List.Sublist.refl _⟩
  | _, _, _, 0, .un s => ⟨_, .val hv s, List.Sublist.refl _⟩
  | _, _, _, 0, .val _ s => ⟨_, .val hv s, List.Sublist.refl _⟩
  | _, _, _, 0, .own _ _ s => ⟨_, .val hv s, List.sublist_cons_self _ _⟩
  | _, _, _, i + 1, .un s => by
    obtain ⟨L', h1, h2⟩ := Slots.set hv i s
    exact ⟨L', .un h1, h2⟩
  | _, _, _, i + 1, .val h s => by
    obtain ⟨L', h1, h2⟩ := Slots.set hv i s
    exact ⟨L', .val h h1, h2⟩
  | _, _, _, i + 1, .own h r s => by
    obtain ⟨L', h1, h2⟩ := Slots.set hv i s
    exact ⟨_ :: L', .own h r h1, h2.cons_cons _⟩
  | _, _, _, 0, .dic _ s => ⟨_, .val hv s, List.sublist_cons_self _ _⟩
  | _, _, _, i + 1, .dic h s => by
    obtain ⟨L', h1, h2⟩ := Slots.set hv i s
    exact ⟨_ :: L', .dic h h1, h2.cons_cons _⟩
theorem Slots.setO {l : Addr} {xs : List V} {ds : List D} (hl : H l = some (.lst xs)) (hx : RpAll K (hid O H) xs ds) (hn : l ∉ L) : ∀ {σ : List (Option V)} {ρ : List SD} {L : List Addr} (i : Nat), i < ρ.length → Slots pr wd K O H σ ρ L →
    ∃ L1 L2 L3, Slots pr wd K O H (σ.set i (some (.ref l))) (ρ.set i (.own ds)) (L1 ++ l :: L2) ∧ L = L1 ++ L3 ∧ L2.Sublist L3
  | _, _, _, _, h, .nil => by simp at h
  | _, _, L, 0, _, .un s => ⟨[], L, L, .own hl hx s, rfl, List.Sublist.refl _⟩
  | _, _, L, 0, _, .val _ s => ⟨[], L, L, .own hl hx s, rfl, List.Sublist.refl _⟩
  | _, _, _ :: L, 0, _, .own _ _ s => ⟨[], L, _, .own hl hx s, rfl, List.sublist_cons_self _ _⟩
  | _, _, _, i + 1, h, .un s => by
    obtain ⟨L1, L2, L3, h1, h2⟩ := Slots.setO hl hx hn i (by simpa using h) s
    exact ⟨L1, L2, L3, .un h1, h2⟩
  | _, _, _, i + 1, h, .val q s => by
    obtain ⟨L1, L2, L3, h1, h2⟩ := Slots.setO hl hx hn i (by simpa using h) s
    exact ⟨L1, L2, L3, .val q h1, h2⟩
  | _, _, _, i + 1, h, .own q r s => by
    obtain ⟨L1, L2, L3, h1, h2, h3⟩ := Slots.setO hl hx hn i (by simpa using h) s
    exact ⟨_ :: L1, L2, L3, .own q r h1, by rw [h2]; rfl, h3⟩
  | _, _, _ :: L, 0, _, .dic _ s => ⟨[], L, _, .own hl hx s, rfl, List.sublist_cons_self _ _⟩
  | _, _, _, i + 1, h, .dic q s => by
    obtain ⟨L1, L2, L3, h1, h2, h3⟩ := Slots.setO hl hx hn i (by simpa using h) s
    exact ⟨_ :: L1, L2, L3, .dic q h1, by rw [h2]; rfl, h3⟩
theorem Slots.setN {l : Addr} {kvs : List (D × D)} (hx : NDict pr wd K O H l kvs) (hn : l ∉ L) : ∀ {σ : List (Option V)} {ρ : List SD} {L : List Addr} (i : Nat), i < ρ.length → Slots pr wd K O H σ ρ L →
    ∃ L1 L2 L3, Slots pr wd K O H (σ.set i (some (.ref l))) (ρ.set i (.dic kvs)) (L1 ++ l :: L2) ∧ L = L1 ++ L3 ∧ L2.Sublist L3
  | _, _, _, _, h, .nil => by simp at h
  | _, _, L, 0, _, .un s => ⟨[], L, L, .dic hx s, rfl, List.Sublist.refl _⟩
  | _, _, L, 0, _, .val _ s => ⟨[], L, L, .dic hx s, rfl, List.Sublist.refl _⟩
  | _, _, _ :: L, 0, _, .own _ _ s => ⟨[], L, _, .dic hx s, rfl, List.sublist_cons_self _ _⟩
  | _, _, _ :: L, 0, _, .dic _ s => ⟨[], L, _, .dic hx s, rfl, List.sublist_cons_self _ _⟩
  | _, _, _, i + 1, h, .un s => by
    obtain ⟨L1, L2, L3, h1, h2⟩ := Slots.setN hx hn i (by simpa using h) s
    exact ⟨L1, L2, L3, .un h1, h2⟩
  | _, _, _, i + 1, h, .val q s => by
    obtain ⟨L1, L2, L3, h1, h2⟩ := Slots.setN hx hn i (by simpa using h) s
    exact ⟨L1, L2, L3, .val q h1, h2⟩
  | _, _, _, i + 1, h, .own q r s => by
    obtain ⟨L1, L2, L3, h1, h2, h3⟩ := Slots.setN hx hn i (by simpa using h) s
    exact ⟨_ :: L1, L2, L3, .own q r h1, by rw [h2]; rfl, h3⟩
  | _, _, _, i + 1, h, .dic q s => by
    obtain ⟨L1, L2, L3, h1, h2, h3⟩ := Slots.setN hx hn i (by simpa using h) s
    exact ⟨_ :: L1, L2, L3, .dic q h1, by rw [h2]; rfl, h3⟩
end

theorem Slots.lists {pr : Program} {wd : World} {K : PySem.W.Frag} {O : List Addr} {H : Hp} {σ : List (Option V)} {ρ : List SD} {L : List Addr} (s : Slots pr wd K O H σ ρ L) : ∀ l ∈ L, ∃ o, H l = some o := by
  induction s with
  | nil => intro l h; cases h
  | un _ ih => exact ih
  | val _ _ ih => exact ih
  | own h _ _ ih =>
    intro l hl
    rcases List.mem_cons.mp hl with e | e
    · subst e; exact ⟨_, h⟩
    · exact ih l e
  | dic h _ ih =>
    intro l hl
    rcases List.mem_cons.mp hl with e | e
    · subst e; obtain ⟨xs, h1, _⟩ := h; exact ⟨_, h1⟩
    · exact ih l e
section
variable {c : Ctx} {P : Hp} {L : List Addr} {n n' : Nat} {H H' : Hp} {σ : List (Option V)} {ρ : List SD}
theorem mem_B {b : Addr} : b ∈ c.B ↔ ∃ q, c.bag = some (b, q) := by
  unfold Ctx.B
  cases c.bag with
  | none => simp
  | some x =>
    obtain ⟨x1, x2⟩ := x
    simp [eq_comm]
theorem Env.inO (E : Env c P L n H σ ρ) {b : Addr} (h : b ∈ c.B) : b ∈ c.O := by
  obtain ⟨q, e⟩ := mem_B.mp h
  exact (E.bO b q e).1
theorem Env.notB (E : Env c P L n H σ ρ) {l : Addr} (h : l ∈ L) : l ∉ c.B := fun q => (E.fresh l h).2 (E.inO q)
theorem Env.BLO (E : Env c P L n H σ ρ) : ∀ a, a ∈ c.B → a ∈ L ++ c.O := fun a h => List.mem_append_right _ (E.inO h)
theorem Env.sameLO (E : Env c P L n H σ ρ) (e : Same (hid c.B H) (hid c.B H')) : Same (hid (L ++ c.O) H) (hid (L ++ c.O) H') := same_hid_more E.BLO e
theorem Env.own (E : Env c P L n H σ ρ) (e : Same (hid c.B H) (hid c.B H')) : ∀ l ∈ L, H' l = H l := fun l hl => by
  obtain ⟨xs, h⟩ := E.lst l hl
  rw [h]
  exact (hid_some.mp (e l _ (hid_some.mpr ⟨E.notB hl, h⟩))).2
/-- an expression's step -/
theorem Env.step (E : Env c P L n H σ ρ) (e : Same (hid c.B H) (hid c.B H')) (j : c.J n' H') : Env c P L n' H' σ ρ where
  nd := E.nd
  fresh := E.fresh
  slots := by
    obtain ⟨Ls, s, sub⟩ := E.slots
    exact ⟨Ls, s.move (fun l hl => E.own e l (sub.subset hl)) (E.sameLO e), sub⟩
  lst := fun l hl => by
    rw [E.own e l hl]
    exact E.lst l hl
  bag := j
  base := E.base.trans e
  pers := E.pers.trans (E.sameLO e)
  bO := E.bO
  al := fun o ho => by
    by_cases hb : o ∈ c.B
    · obtain ⟨q, hq⟩ := mem_B.mp hb
      obtain ⟨xs, h⟩ := (j o q hq).lst
      rw [h]; exact fun q => by cases q
    · cases h : H o with
      | none => exact absurd h (E.al o ho)
      | some u =>
        rw [(hid_some.mp (e o u (hid_some.mpr ⟨hb, h⟩))).2]
        exact fun q => by cases q
/-- where all stands and new things may have come -/
theorem Env.same (E : Env c P L n H σ ρ) (e : Same H H') : Same (hid c.B H) (hid c.B H') ∧ c.J n H' :=
  ⟨same_hid_of e, fun b q hb => (E.bag b q hb).move (fun o h => e b o h) fun o h => e q o h⟩
theorem Env.new (E : Env c P L n H σ ρ) {p : Addr} (h : H p = none) : c.H0 p = none ∧ p ∉ c.O ∧ p ∉ L := by
  have h1 : p ∉ c.O := fun q => E.al p q h
  refine ⟨?_, h1, fun q => ?_⟩
  · cases e : c.H0 p with
    | none => rfl
    | some u =>
      have := (hid_some.mp (E.base p u (hid_some.mpr ⟨fun q => h1 (E.inO q), e⟩))).2
      rw [h] at this; cases this
  · obtain ⟨xs, e⟩ := E.lst p q
    rw [h] at e; cases e
theorem Env.pers' (E : Env c P L n H σ ρ) : Env c (hid (L ++ c.O) H) L n H σ ρ := { E with pers := Same.refl _ }
theorem Env.persOf {P' : Hp} (E : Env c P L n H σ ρ) (h : Same P' P) : Env c P' L n H σ ρ := { E with pers := h.trans E.pers }
/-- other slots over the same or a smaller set of owned lists -/
theorem Env.reslot {L' : List Addr} {σ' : List (Option V)} {ρ' : List SD} (E : Env c P L n H σ ρ) (s : Slots c.pr c.wd c.K (L ++ c.O) H σ' ρ' L') (h : L'.Sublist L) : Env c P L n H σ' ρ' :=
  { E with slots := ⟨L', s, h⟩ }
end
end L3
/-! L3b: the judgements over data, and their rules. -/
namespace L3
open PySem L2

abbrev Ph := Nat → D → Prop
abbrev ER := List (Option V)
def WE (c : Ctx) (te : TE) (ρ : List SD) (n : Nat) (Φ : Nat → D → Prop) : Prop :=
  ∀ P L σ H Q, Env c P L n H σ ρ → (∀ v d n' H', Same (hid c.B H) (hid c.B H') → c.J n' H' → Rp c.K (hid (L ++ c.O) H') v d → Φ n' d → Q v H') → te σ H Q
def WT (c : Ctx) (tt : TT) (ρ : List SD) (n : Nat) (Φ : Nat → Bool → Prop) : Prop :=
  ∀ P L σ H Q, Env c P L n H σ ρ → (∀ b n' H', Same (hid c.B H) (hid c.B H') → c.J n' H' → Φ n' b → Q b H') → tt σ H Q
def WA (c : Ctx) (ta : TA) (ρ : List SD) (n : Nat) (Φ : Nat → List D → Prop) : Prop :=
  ∀ P L σ H Q, Env c P L n H σ ρ → (∀ vs ds n' H', Same (hid c.B H) (hid c.B H') → c.J n' H' → RpAll c.K (hid (L ++ c.O) H') vs ds → Φ n' ds → Q vs H') → ta σ H Q
/-- a part of a slice -/
def WO (c : Ctx) (to : TO) (ρ : List SD) (n : Nat) (Φ : Nat → Option Int → Prop) : Prop :=
  ∀ P L σ H Q, Env c P L n H σ ρ → (∀ o n' H', Same (hid c.B H) (hid c.B H') → c.J n' H' → Φ n' o → Q o H') → to σ H Q
/-- a new list -/
def WF (c : Ctx) (te : TE) (ρ : List SD) (n : Nat) (Φ : Nat → List D → Prop) : Prop :=
  ∀ P L σ H Q, Env c P L n H σ ρ → (∀ p xs ds n' H', Same (hid c.B H) (hid c.B H') → H p = none → H' p = some (.lst xs) → RpAll c.K (hid (p :: (L ++ c.O)) H') xs ds → c.J n' H' → Φ n' ds → Q (.ref p) H') → te σ H Q
structure Out where
  nx : Nat → List SD → Prop
  rt : Nat → D → Prop
  bk : Nat → List SD → Prop := fun _ _ => False
  ct : Nat → List SD → Prop := fun _ _ => False
structure Acc (c : Ctx) (P : Hp) (Ψ : Out) (Dn : Ends) : Prop where
  nx : ∀ L n H σ ρ, Env c P L n H σ ρ → Ψ.nx n ρ → Dn.nx σ H
  rt : ∀ v d n H, Same (hid c.B c.H0) (hid c.B H) → c.J n H → Rp c.K (hid c.O H) v d → Ψ.rt n d → Dn.rt v H
  bk : ∀ L n H σ ρ, Env c P L n H σ ρ → Ψ.bk n ρ → Dn.bk σ H
  ct : ∀ L n H σ ρ, Env c P L n H σ ρ → Ψ.ct n ρ → Dn.ct σ H
def WS (c : Ctx) (ts : TS) (ρ : List SD) (n : Nat) (Ψ : Out) : Prop :=
  ∀ P L σ H Dn, Env c P L n H σ ρ → Acc c P Ψ Dn → ts Dn σ H
def WG (c : Ctx) (R : ER → ER → Prop) (g : TG) (d : D) (ρ : List SD) (n : Nat) (Φ : List SD → Prop) : Prop :=
  ∀ P L σ H v Q, Env c P L n H σ ρ → Rp c.K (hid (L ++ c.O) H) v d → (∀ σ' ρ', Env c P L n H σ' ρ' → R σ σ' → Φ ρ' → Q σ' H) → g v σ H Q
def WGs (c : Ctx) (R : ER → ER → Prop) (g : TGs) (ds : List D) (ρ : List SD) (n : Nat) (Φ : List SD → Prop) : Prop :=
  ∀ P L σ H vs Q, Env c P L n H σ ρ → RpAll c.K (hid (L ++ c.O) H) vs ds → (∀ σ' ρ', Env c P L n H σ' ρ' → R σ σ' → Φ ρ' → Q σ' H) → g vs σ H Q
/-- a walk over these data -/
structure ItOk (c : Ctx) (J : It) (ds : List D) (P : Hp) : Prop where
  go : ∀ L n H σ ρ, Env c P L n H σ ρ → ∀ i d, ds[i]? = some d → J.go i H ∧ ∀ x H', J.yld i H x H' → Same H H' ∧ Rp c.K (hid (L ++ c.O) H') x d
  stop : ∀ L n H σ ρ, Env c P L n H σ ρ → ∀ i, ds.length ≤ i → J.stop i H
def WI (c : Ctx) (wi : TI) (ρ : List SD) (n : Nat) (Φ : Nat → List D → Prop) : Prop :=
  ∀ P L σ H R, Env c P L n H σ ρ → (∀ J ds n' H', Same (hid c.B H) (hid c.B H') → c.J n' H' → ItOk c J ds (hid (L ++ c.O) H') → Φ n' ds → R J H') → wi σ H R

section
variable {c : Ctx} {ρ : List SD} {n : Nat} {ta tb te : TE} {t u : TT} {as : TA} {Φ : Nat → D → Prop} {Ψ : Out} {ts us : TS}

/-! ### steps -/
theorem Env.up {P : Hp} {L : List Addr} {n n' : Nat} {H H' H2 : Hp} {σ : List (Option V)} {ρ : List SD} (E : Env c P L n H σ ρ) (e : Same (hid c.B H) (hid c.B H')) {v : V} {d : D} (h : Rp c.K (hid (L ++ c.O) H) v d) : Rp c.K (hid (L ++ c.O) H') v d := h.mono (E.sameLO e)
theorem Env.ups {P : Hp} {L : List Addr} {n n' : Nat} {H H' H2 : Hp} {σ : List (Option V)} {ρ : List SD} (E : Env c P L n H σ ρ) (e : Same (hid c.B H) (hid c.B H')) {v : List V} {d : List D} (h : RpAll c.K (hid (L ++ c.O) H) v d) : RpAll c.K (hid (L ++ c.O) H') v d := h.mono (E.sameLO e)

theorem Env.noO {P : Hp} {L : List Addr} {n : Nat} {H : Hp} {σ : List (Option V)} (E : Env c P L n H σ ρ) : ∀ p, H p = none → p ∉ L ++ c.O := fun p hp q => by
  have w := E.new hp
  rcases List.mem_append.mp q with q | q
  · exact w.2.2 q
  · exact w.2.1 q
/-! ### expressions -/
theorem we_var {i : Nat} {d : D} (h : ρ[i]? = some (.val d)) (k : Φ n d) : WE c (tVar i) ρ n Φ := fun P L σ H Q E q => by
  obtain ⟨Ls, sl, _⟩ := E.slots
  obtain ⟨v, h1, h2⟩ := sl.get h
  exact ⟨v, h1, q v d n H (Same.refl _) E.bag h2 k⟩
theorem we_int {i : Int} (k : Φ n (.int i)) : WE c (tC (.int i)) ρ n Φ := fun P L σ H Q E q => q _ _ n H (Same.refl _) E.bag (.int i) k
theorem we_str {x : Str} (k : Φ n (.str x)) : WE c (tC (.str x)) ρ n Φ := fun P L σ H Q E q => q _ _ n H (Same.refl _) E.bag (.str x) k
theorem we_bl {b : Bool} (k : Φ n (.bl b)) : WE c (tC (.bl b)) ρ n Φ := fun P L σ H Q E q => q _ _ n H (Same.refl _) E.bag (.bl b) k
theorem we_non (k : Φ n .non) : WE c (tC .non) ρ n Φ := fun P L σ H Q E q => q _ _ n H (Same.refl _) E.bag .non k
/-- two expressions in a row, then what is asked of their values -/
def R2D (K : PySem.W.Frag) (r : R2) (d e : D) (Φ : D → Prop) : Prop := ∀ (O : List Addr) (H : Hp) (x y : V) (Q : VK), Rp K (hid O H) x d → Rp K (hid O H) y e → (∀ p, H p = none → p ∉ O) → (∀ v f H', Same H H' → Rp K (hid O H') v f → Φ f → Q v H') → r x y H Q
theorem we_op {r : R2} (h : WE c ta ρ n fun n1 d => WE c tb ρ n1 fun n2 e => R2D c.K r d e (Φ n2)) : WE c (tOp r ta tb) ρ n Φ := fun P L σ H Q E q => by
  refine h P L σ H _ E fun x d n1 H1 s1 j1 r1 h1 => ?_
  refine h1 P L σ H1 _ (E.step s1 j1) fun y e n2 H2 s2 j2 r2 h2 => ?_
  have E2 := (E.step s1 j1).step s2 j2
  refine h2 (L ++ c.O) H2 x y Q ((E.step s1 j1).up (n' := 0) (H2 := H) s2 r1) r2 E2.noO fun v f H' s r k => ?_
  have z := E2.same s
  exact q v f n2 H' ((s1.trans s2).trans z.1) z.2 r k
theorem we_un {r : V → Hp → VK → Prop} (h : WE c ta ρ n fun n1 d => ∀ (O : List Addr) (H : Hp) (x : V) (Q : VK), Rp c.K (hid O H) x d → (∀ p, H p = none → p ∉ O) → (∀ v f H', Same H H' → Rp c.K (hid O H') v f → Φ n1 f → Q v H') → r x H Q) : WE c (tUn r ta) ρ n Φ := fun P L σ H Q E q => by
  refine h P L σ H _ E fun x d n1 H1 s1 j1 r1 h1 => ?_
  refine h1 (L ++ c.O) H1 x Q r1 (E.step s1 j1).noO fun v f H' s r k => ?_
  have z := (E.step s1 j1).same s
  exact q v f n1 H' (s1.trans z.1) z.2 r k
/-- an int operation -/
theorem r2_int {K : PySem.W.Frag} {C : Int → Int → Prop} {g : Int → Int → V} {h : Int → Int → D} (hg : ∀ (H : Hp) i j, Rp K H (g i j) (h i j)) {i j : Int} {Φ : D → Prop} (hc : C i j) (k : Φ (h i j)) : R2D K (rI C g) (.int i) (.int j) Φ := fun O H x y Q rx ry _ q => by
  cases rx
  cases ry
  exact ⟨i, j, rfl, rfl, hc, q _ _ H (Same.refl _) (hg _ i j) k⟩
theorem r2_int0 {K : PySem.W.Frag} {g : Int → Int → V} {h : Int → Int → D} (hg : ∀ (H : Hp) i j, Rp K H (g i j) (h i j)) {i j : Int} {Φ : D → Prop} (k : Φ (h i j)) : R2D K (rI0 g) (.int i) (.int j) Φ := fun O H x y Q rx ry _ q => by
  cases rx
  cases ry
  exact ⟨i, j, rfl, rfl, q _ _ H (Same.refl _) (hg _ i j) k⟩
theorem r2_eq {K : PySem.W.Frag} {d e : D} {b : Bool} {Φ : D → Prop} (hs : ∀ (H : Hp) x y, Rp K H x d → Rp K H y e → scal x y = true ∧ decide (x = y) = b) (k : Φ (.bl b)) : R2D K rEq d e Φ := fun O H x y Q rx ry _ q => by
  obtain ⟨h1, h2⟩ := hs _ x y rx ry
  exact ⟨h1, by rw [h2]; exact q _ _ H (Same.refl _) (.bl b) k⟩
theorem r2_ne {K : PySem.W.Frag} {d e : D} {b : Bool} {Φ : D → Prop} (hs : ∀ (H : Hp) x y, Rp K H x d → Rp K H y e → scal x y = true ∧ (!decide (x = y)) = b) (k : Φ (.bl b)) : R2D K rNe d e Φ := fun O H x y Q rx ry _ q => by
  obtain ⟨h1, h2⟩ := hs _ x y rx ry
  exact ⟨h1, by rw [h2]; exact q _ _ H (Same.refl _) (.bl b) k⟩
/-- a value as a test -/
theorem wt_B {Φ : Nat → Bool → Prop} (h : WE c te ρ n fun n1 d => ∃ b, d = .bl b ∧ Φ n1 b) : WT c (tB te) ρ n Φ := fun P L σ H Q E q => by
  refine h P L σ H _ E fun x d n1 H1 s1 j1 r1 ⟨b, e, k⟩ => ?_
  subst e
  cases r1
  exact ⟨b, rfl, q b n1 H1 s1 j1 k⟩
theorem wt_test {Φ : Nat → Bool → Prop} (h : WE c te ρ n fun n1 d => ∃ b, d = .bl b ∧ Φ n1 b) : WT c (tTest te) ρ n Φ := wt_B h
/-- truth -/
def tru : D → Option Bool
  | .non => some false
  | .bl b => some b
  | .int i => some (i != 0)
  | .str x => if x.length ≤ sizeLine then some ((x.length : Int) != 0) else none
  | .lst xs => some (!xs.isEmpty)
  | .tup xs => some (!xs.isEmpty)
  | _ => none
theorem tru_V {K : PySem.W.Frag} {H : Hp} {O : List Addr} {x : V} {d : D} {b : Bool} (r : Rp K (hid O H) x d) (h : tru d = some b) : TruV K x H b := by
  cases r with
  | non => exact (Option.some.inj h).symm
  | bl b => exact (Option.some.inj h).symm
  | int i => exact (Option.some.inj h).symm
  | str x =>
    by_cases hx : x.length ≤ sizeLine
    · have h' : (if x.length ≤ sizeLine then some ((x.length : Int) != 0) else none) = some b := h
      rw [if_pos hx] at h'
      exact ⟨hx, (Option.some.inj h').symm⟩
    · have h' : (if x.length ≤ sizeLine then some ((x.length : Int) != 0) else none) = some b := h
      rw [if_neg hx] at h'
      cases h'
  | lst hs ha =>
    refine .inl ⟨_, .inl (same_rd same_hid hs), ?_⟩
    rw [← Option.some.inj h]
    cases ha <;> rfl
  | tup hs ha =>
    refine .inr (.inl ⟨_, same_t same_hid hs, ?_⟩)
    rw [← Option.some.inj h]
    cases ha <;> rfl
  | obj h1 _ => cases h
  | adr a => cases h
  | ty n => cases h
theorem wt_tru {Φ : Nat → Bool → Prop} (h : WE c te ρ n fun n1 d => ∃ b, tru d = some b ∧ Φ n1 b) : WT c (fun σ H Q => te σ H fun x H' => ∃ k, TruV c.K x H' k ∧ Q k H') ρ n Φ := fun P L σ H Q E q => by
  refine h P L σ H _ E fun x d n1 H1 s1 j1 r1 ⟨b, e, k⟩ => ?_
  exact ⟨b, tru_V r1 e, q b n1 H1 s1 j1 k⟩
theorem wt_and {Φ : Nat → Bool → Prop} (h : WT c t ρ n fun n1 b => if b = true then WT c u ρ n1 Φ else Φ n1 false) : WT c (tAnd t u) ρ n Φ := fun P L σ H Q E q => by
  refine h P L σ H _ E fun b n1 H1 s1 j1 k => ?_
  cases b with
  | true =>
    rw [if_pos rfl] at k
    show u σ H1 Q
    exact k P L σ H1 Q (E.step s1 j1) fun b n2 H2 s2 j2 k2 => q b n2 H2 (s1.trans s2) j2 k2
  | false =>
    rw [if_neg Bool.false_ne_true] at k
    exact q false n1 H1 s1 j1 k
theorem wt_or {Φ : Nat → Bool → Prop} (h : WT c t ρ n fun n1 b => if b = true then Φ n1 true else WT c u ρ n1 Φ) : WT c (tOr t u) ρ n Φ := fun P L σ H Q E q => by
  refine h P L σ H _ E fun b n1 H1 s1 j1 k => ?_
  cases b with
  | true =>
    rw [if_pos rfl] at k
    exact q true n1 H1 s1 j1 k
  | false =>
    rw [if_neg Bool.false_ne_true] at k
    show u σ H1 Q
    exact k P L σ H1 Q (E.step s1 j1) fun b n2 H2 s2 j2 k2 => q b n2 H2 (s1.trans s2) j2 k2
theorem wt_not {Φ : Nat → Bool → Prop} (h : WT c t ρ n fun n1 b => Φ n1 (!b)) : WT c (tNot t) ρ n Φ := fun P L σ H Q E q => h P L σ H _ E fun b n1 H1 s1 j1 k => q (!b) n1 H1 s1 j1 k
theorem wt_yes {Φ : Nat → Bool → Prop} (k : Φ n true) : WT c tYes ρ n Φ := fun P L σ H Q E q => q true n H (Same.refl _) E.bag k
theorem we_not (h : WE c ta ρ n fun n1 d => ∃ b, d = .bl b ∧ Φ n1 (.bl (!b))) : WE c (tNotV ta) ρ n Φ := fun P L σ H Q E q => by
  refine h P L σ H _ E fun x d n1 H1 s1 j1 r1 ⟨b, e, k⟩ => ?_
  subst e
  cases r1
  exact ⟨b, rfl, q _ _ n1 H1 s1 j1 (.bl _) k⟩
theorem we_and (h : WE c ta ρ n fun n1 d => ∃ b, d = .bl b ∧ if b = true then WE c tb ρ n1 Φ else Φ n1 (.bl false)) : WE c (tAndV ta tb) ρ n Φ := fun P L σ H Q E q => by
  refine h P L σ H _ E fun x d n1 H1 s1 j1 r1 ⟨b, e, k⟩ => ?_
  subst e
  cases r1
  refine ⟨b, rfl, ?_⟩
  cases b with
  | true =>
    rw [if_pos rfl] at k ⊢
    exact k P L σ H1 Q (E.step s1 j1) fun v d n2 H2 s2 j2 r2 k2 => q v d n2 H2 (s1.trans s2) j2 r2 k2
  | false =>
    rw [if_neg Bool.false_ne_true] at k ⊢
    exact q _ _ n1 H1 s1 j1 (.bl _) k
theorem we_or (h : WE c ta ρ n fun n1 d => ∃ b, d = .bl b ∧ if b = true then Φ n1 (.bl true) else WE c tb ρ n1 Φ) : WE c (tOrV ta tb) ρ n Φ := fun P L σ H Q E q => by
  refine h P L σ H _ E fun x d n1 H1 s1 j1 r1 ⟨b, e, k⟩ => ?_
  subst e
  cases r1
  refine ⟨b, rfl, ?_⟩
  cases b with
  | true =>
    rw [if_pos rfl] at k ⊢
    exact q _ _ n1 H1 s1 j1 (.bl _) k
  | false =>
    rw [if_neg Bool.false_ne_true] at k ⊢
    exact k P L σ H1 Q (E.step s1 j1) fun v d n2 H2 s2 j2 r2 k2 => q v d n2 H2 (s1.trans s2) j2 r2 k2
theorem we_if (h : WT c t ρ n fun n1 b => if b = true then WE c ta ρ n1 Φ else WE c tb ρ n1 Φ) : WE c (tIf t ta tb) ρ n Φ := fun P L σ H Q E q => by
  refine h P L σ H _ E fun b n1 H1 s1 j1 k => ?_
  cases b with
  | true =>
    rw [if_pos rfl] at k ⊢
    exact k P L σ H1 Q (E.step s1 j1) fun v d n2 H2 s2 j2 r2 k2 => q v d n2 H2 (s1.trans s2) j2 r2 k2
  | false =>
    rw [if_neg Bool.false_ne_true] at k ⊢
    exact k P L σ H1 Q (E.step s1 j1) fun v d n2 H2 s2 j2 r2 k2 => q v d n2 H2 (s1.trans s2) j2 r2 k2
/-- is None -/
def isNon : D → Bool
  | .non => true
  | _ => false
theorem isNon_V {K : PySem.W.Frag} {H : Hp} {x : V} {d : D} (r : Rp K H x d) : decide (x = .non) = isNon d := by
  cases r <;> first | rfl | exact decide_eq_false (fun e => by cases e)
theorem we_isN (h : WE c ta ρ n fun n1 d => Φ n1 (.bl (isNon d))) : WE c (tIsN ta) ρ n Φ := fun P L σ H Q E q => by
  refine h P L σ H _ E fun x d n1 H1 s1 j1 r1 k => ?_
  rw [isNon_V r1]
  exact q _ _ n1 H1 s1 j1 (.bl _) k
theorem we_notN (h : WE c ta ρ n fun n1 d => Φ n1 (.bl (!isNon d))) : WE c (tNotN ta) ρ n Φ := fun P L σ H Q E q => by
  refine h P L σ H _ E fun x d n1 H1 s1 j1 r1 k => ?_
  rw [isNon_V r1]
  exact q _ _ n1 H1 s1 j1 (.bl _) k

/-! ### arguments, displays -/
theorem wa_nil {Φ : Nat → List D → Prop} (k : Φ n []) : WA c tNil ρ n Φ := fun P L σ H Q E q => q [] [] n H (Same.refl _) E.bag .nil k
theorem wa_cons {Φ : Nat → List D → Prop} (h : WE c ta ρ n fun n1 d => WA c as ρ n1 fun n2 ds => Φ n2 (d :: ds)) : WA c (tCons ta as) ρ n Φ := fun P L σ H Q E q => by
  refine h P L σ H _ E fun x d n1 H1 s1 j1 r1 h1 => ?_
  have E1 := E.step s1 j1
  refine h1 P L σ H1 _ E1 fun vs ds n2 H2 s2 j2 r2 k => ?_
  exact q _ _ n2 H2 (s1.trans s2) j2 (.cons (E1.up (n' := 0) (H2 := H) s2 r1) r2) k
theorem Env.newT {P : Hp} {L : List Addr} {n : Nat} {H : Hp} {σ : List (Option V)} {p : Addr} {o : HO} (E : Env c P L n H σ ρ) (hp : H p = none) : Same (hid c.B H) (hid c.B (upd H p o)) ∧ c.J n (upd H p o) ∧ p ∉ L ++ c.O := by
  have z := E.same (same_upd_new (o := o) hp)
  have w := E.new hp
  exact ⟨z.1, z.2, fun q => by rcases List.mem_append.mp q with q | q; exact w.2.2 q; exact w.2.1 q⟩
theorem rp_upd {K : PySem.W.Frag} {O : List Addr} {H : Hp} {p : Addr} {o : HO} (hp : H p = none) : Same (hid O H) (hid O (upd H p o)) := same_hid_of (same_upd_new hp)
theorem hid_at {O : List Addr} {H : Hp} {p : Addr} {o : HO} (hp : p ∉ O) : hid O (upd H p o) p = some o := by rw [hid_out hp, upd_same]
theorem we_tup (h : WA c as ρ n fun n1 ds => ds.length ≤ sizeLine ∧ Φ n1 (.tup ds)) : WE c (tTup as) ρ n Φ := fun P L σ H Q E q => by
  refine h P L σ H _ E fun vs ds n1 H1 s1 j1 r1 ⟨hz, k⟩ => ?_
  refine ⟨by rw [r1.length]; exact hz, fun p hp => ?_⟩
  have z := (E.step s1 j1).newT (o := .tup vs) hp
  exact q _ _ n1 _ (s1.trans z.1) z.2.1 (.tup (.inl (.inl (hid_at z.2.2))) (r1.mono (rp_upd (K := c.K) hp))) k
theorem wf_lst {Φ : Nat → List D → Prop} (h : WA c as ρ n fun n1 ds => ds.length ≤ sizeLine ∧ Φ n1 ds) : WF c (tLst as) ρ n Φ := fun P L σ H Q E q => by
  refine h P L σ H _ E fun vs ds n1 H1 s1 j1 r1 ⟨hz, k⟩ => ?_
  refine ⟨by rw [r1.length]; exact hz, fun p hp => ?_⟩
  have E1 := E.step s1 j1
  refine q p vs ds n1 _ (s1.trans (E1.newT hp).1) ?_ upd_same (by rw [hid_new_in hp]; exact r1) (E1.newT hp).2.1 k
  cases e : H p with
  | none => rfl
  | some o =>
    by_cases hb : p ∈ c.B
    · exact absurd hp (E1.al p (E.inO hb))
    · rw [(hid_some.mp (s1 p o (hid_some.mpr ⟨hb, e⟩))).2] at hp
      cases hp
/-- a new list as a value -/
theorem wf_we (h : WF c te ρ n fun n1 ds => Φ n1 (.lst ds)) : WE c te ρ n Φ := fun P L σ H Q E q => by
  refine h P L σ H _ E fun p xs ds n1 H1 s1 hp h1 r1 j1 k => ?_
  have w := E.new hp
  have nin : p ∉ L ++ c.O := fun q => by rcases List.mem_append.mp q with q | q; exact w.2.2 q; exact w.2.1 q
  have sub : Same (hid (p :: (L ++ c.O)) H1) (hid (L ++ c.O) H1) := same_hid_sub fun a ha => List.mem_cons_of_mem _ ha
  exact q _ _ n1 H1 s1 j1 (.lst (.inl (by rw [hid_out nin]; exact h1)) (r1.mono sub)) k
theorem we_lst (h : WA c as ρ n fun n1 ds => ds.length ≤ sizeLine ∧ Φ n1 (.lst ds)) : WE c (tLst as) ρ n Φ := wf_we (wf_lst h)

/-! ### calls -/
/-- what a call of values asks, over data -/
def RCD (K : PySem.W.Frag) (r : List V → Hp → VK → Prop) (ds : List D) (Φ : D → Prop) : Prop := ∀ (O : List Addr) (H : Hp) (xs : List V) (Q : VK), RpAll K (hid O H) xs ds → (∀ p, H p = none → p ∉ O) → (∀ v f H', Same H H' → Rp K (hid O H') v f → Φ f → Q v H') → r xs H Q
theorem we_cb {r : List V → Hp → VK → Prop} (h : WA c as ρ n fun n1 ds => RCD c.K r ds (Φ n1)) : WE c (tCB r as) ρ n Φ := fun P L σ H Q E q => by
  refine h P L σ H _ E fun vs ds n1 H1 s1 j1 r1 k => ?_
  have E1 := E.step s1 j1
  refine k (L ++ c.O) H1 vs Q r1 E1.noO fun v f H' s r k => ?_
  have z := E1.same s
  exact q v f n1 H' (s1.trans z.1) z.2 r k
/-- what a def promises, over data: S of the bag, the turns, the arguments, what is wanted -/
abbrev Spec := Option (Addr × Addr) → Nat → List D → (Nat → D → Prop) → Prop
def spD (K : PySem.W.Frag) (S : Spec) : Sp := fun vs H Q _ => ∃ (O : List Addr) (bag : Option (Addr × Addr)) (n : Nat) (ds : List D) (Φ : Nat → D → Prop),
  (∀ b q, bag = some (b, q) → BagOk b q n H ∧ b ∈ O ∧ q ∈ O ∧ q ≠ b) ∧ (∀ o ∈ O, H o ≠ none) ∧ RpAll K (hid O H) vs ds ∧ S bag n ds Φ ∧
  ∀ v d n' H', Same (hid (bag.map (·.1)).toList H) (hid (bag.map (·.1)).toList H') → (∀ b q, bag = some (b, q) → BagOk b q n' H') → Rp K (hid O H') v d → Φ n' d → Q v H'
theorem Env.alLO {P : Hp} {L : List Addr} {n : Nat} {H : Hp} {σ : List (Option V)} (E : Env c P L n H σ ρ) : ∀ o ∈ L ++ c.O, H o ≠ none := fun o ho => by
  rcases List.mem_append.mp ho with q | q
  · obtain ⟨xs, h⟩ := E.lst o q
    rw [h]; exact fun q => by cases q
  · exact E.al o q
/-- the defaults' data -/
theorem we_call {S : Spec} {dvs : List V} {dds : List D} {XE : XK} (hd : ∀ H, RpAll c.K H dvs dds) (h : WA c as ρ n fun n1 ds => S c.bag n1 (ds ++ dds) Φ) : WE c (tCall (spD c.K S) dvs XE as) ρ n Φ := fun P L σ H Q E q => by
  refine h P L σ H _ E fun vs ds n1 H1 s1 j1 r1 k => ?_
  have E1 := E.step s1 j1
  refine ⟨L ++ c.O, c.bag, n1, ds ++ dds, Φ, fun b q hb => ⟨j1 b q hb, List.mem_append_right _ (E.bO b q hb).1, List.mem_append_right _ (E.bO b q hb).2.1, (E.bO b q hb).2.2⟩, E1.alLO, r1.append (hd _), k, fun v d n2 H2 s2 j2 r2 k2 => ?_⟩
  exact q v d n2 H2 (s1.trans s2) j2 r2 k2
theorem we_call0 {S : Spec} {XE : XK} (h : WA c as ρ n fun n1 ds => S c.bag n1 ds Φ) : WE c (tCall (spD c.K S) [] XE as) ρ n Φ := we_call (dds := []) (fun _ => .nil) fun P L σ H Q E q => h P L σ H Q E fun vs ds n1 H1 s1 j1 r1 k => q vs ds n1 H1 s1 j1 r1 (by show S c.bag n1 (ds ++ []) Φ; rw [List.append_nil]; exact k)

/-! ### statements -/
theorem ws_seq (h : WS c ts ρ n { Ψ with nx := fun n1 ρ1 => WS c us ρ1 n1 Ψ }) : WS c (tSeq ts us) ρ n Ψ := fun P L σ H Dn E A =>
  h P L σ H _ E { nx := fun L' n1 H1 σ1 ρ1 E1 k => k P L' σ1 H1 Dn E1 A, rt := A.rt, bk := A.bk, ct := A.ct }
theorem ws_next (k : Ψ.nx n ρ) : WS c tNext ρ n Ψ := fun P L σ H Dn E A => A.nx L n H σ ρ E k
theorem ws_brk (k : Ψ.bk n ρ) : WS c tBreak ρ n Ψ := fun P L σ H Dn E A => A.bk L n H σ ρ E k
theorem ws_cont (k : Ψ.ct n ρ) : WS c tCont ρ n Ψ := fun P L σ H Dn E A => A.ct L n H σ ρ E k
theorem Env.set {P : Hp} {L : List Addr} {n : Nat} {H : Hp} {σ : List (Option V)} (E : Env c P L n H σ ρ) {v : V} {d : D} (i : Nat) (h : Rp c.K (hid (L ++ c.O) H) v d) : Env c P L n H (σ.set i (some v)) (ρ.set i (.val d)) := by
  obtain ⟨Ls, sl, sb⟩ := E.slots
  obtain ⟨L', s, sub⟩ := sl.set h i
  exact E.reslot s (sub.trans sb)
theorem ws_set {i : Nat} (h : WE c te ρ n fun n1 d => Ψ.nx n1 (ρ.set i (.val d))) : WS c (tAsg te (gName i)) ρ n Ψ := fun P L σ H Dn E A => by
  refine h P L σ H _ E fun v d n1 H1 s1 j1 r1 k => ?_
  exact A.nx L n1 H1 _ _ ((E.step s1 j1).set i r1) k
theorem ws_asg {g : TG} (h : WE c te ρ n fun n1 d => WG c (fun _ _ => True) g d ρ n1 fun ρ1 => Ψ.nx n1 ρ1) : WS c (tAsg te g) ρ n Ψ := fun P L σ H Dn E A => by
  refine h P L σ H _ E fun v d n1 H1 s1 j1 r1 k => ?_
  exact k P L σ H1 v _ (E.step s1 j1) r1 fun σ' ρ' E' _ k => A.nx L n1 H1 σ' ρ' E' k
theorem ins_sub {α : Type} {p : α} : ∀ {L1 L2 L : List α}, (L1 ++ L2).Sublist L → ∃ Lp : List α, (L1 ++ p :: L2).Sublist Lp ∧ Lp.Perm (p :: L)
  | [], L2, L, h => ⟨p :: L, h.cons_cons p, List.Perm.refl _⟩
  | a :: L1, L2, L, h => by
    generalize e : a :: L1 ++ L2 = M at h
    induction h with
    | slnil => cases e
    | @cons l1 l2 b s ih =>
      obtain ⟨Lp, h1, h2⟩ := ih e
      exact ⟨b :: Lp, h1.cons b, (h2.cons b).trans (List.Perm.swap p b l2)⟩
    | @cons_cons l1 l2 b s ih =>
      have e' : a = b ∧ L1 ++ L2 = l1 := by simpa using e
      obtain ⟨e1, e2⟩ := e'
      subst e1; subst e2
      obtain ⟨Lp, h1, h2⟩ := ins_sub s
      exact ⟨a :: Lp, h1.cons_cons a, (h2.cons a).trans (List.Perm.swap p a l2)⟩
/-- a new list that is to be changed -/
theorem ws_own {i : Nat} (hi : i < ρ.length) (h : WF c te ρ n fun n1 ds => Ψ.nx n1 (ρ.set i (.own ds))) : WS c (tAsg te (gName i)) ρ n Ψ := fun P L σ H Dn E A => by
  refine h P L σ H _ E fun p xs ds n1 H1 s1 hp h1 r1 j1 k => ?_
  have w := E.new hp
  have nin : p ∉ L ++ c.O := E.noO p hp
  have E1 := E.step s1 j1
  have hs : Same (hid (L ++ c.O) H) (hid (p :: (L ++ c.O)) H1) := fun a o q => by
    obtain ⟨q1, q2⟩ := hid_some.mp q
    have q3 := (hid_some.mp (E.sameLO s1 a o q)).2
    refine hid_some.mpr ⟨fun z => ?_, q3⟩
    rcases List.mem_cons.mp z with z | z
    · subst z; rw [hp] at q2; cases q2
    · exact q1 z
  obtain ⟨Ls, sl0, sb⟩ := E.slots
  have sl : Slots c.pr c.wd c.K (p :: (L ++ c.O)) H1 σ ρ Ls := sl0.move (fun l hl => E.own s1 l (sb.subset hl)) hs
  obtain ⟨L1, L2, L3, sl2, eL, sub⟩ := Slots.setO h1 r1 (fun q => w.2.2 (sb.subset q)) i hi sl
  have e0 : p :: (L ++ c.O) = (p :: L) ++ c.O := rfl
  -- the slots' lists within p :: L: by a permutation's place
  have mv : ∃ Lp : List Addr, (L1 ++ p :: L2).Sublist Lp ∧ Lp.Perm (p :: L) := by
    rw [eL] at sb
    have h5 : (L1 ++ L2).Sublist L := (List.Sublist.append_left sub L1).trans sb
    exact ins_sub h5
  obtain ⟨Lp, sLp, pLp⟩ := mv
  have mem : ∀ a, a ∈ Lp ++ c.O ↔ a ∈ p :: (L ++ c.O) := fun a => by
    rw [e0, List.mem_append, List.mem_append, pLp.mem_iff]
  refine A.nx Lp n1 H1 _ _ ?_ k
  exact { nd := pLp.nodup_iff.mpr (List.nodup_cons.mpr ⟨w.2.2, E.nd⟩),
          fresh := fun l hl => by
            rcases List.mem_cons.mp (pLp.mem_iff.mp hl) with q | q
            · subst q; exact ⟨w.1, w.2.1⟩
            · exact E.fresh l q,
          slots := ⟨_, sl2.move (fun _ _ => rfl) (same_hid_sub fun a ha => (mem a).mp ha), sLp⟩,
          lst := fun l hl => by
            rcases List.mem_cons.mp (pLp.mem_iff.mp hl) with q | q
            · subst q; exact ⟨_, h1⟩
            · exact E1.lst l q,
          bag := j1,
          base := E1.base,
          pers := (E.pers.trans hs).trans (same_hid_sub fun a ha => (mem a).mp ha),
          bO := E.bO, al := E1.al }
theorem Slots.freeze {pr : Program} {wd : World} {K : PySem.W.Frag} {O : List Addr} {H : Hp} {ds : List D} : ∀ {σ : List (Option V)} {ρ : List SD} {L : List Addr} {i : Nat}, Slots pr wd K O H σ ρ L → ρ[i]? = some (.own ds) → ∃ L1 l L2 xs, L = L1 ++ l :: L2 ∧ H l = some (.lst xs) ∧ RpAll K (hid O H) xs ds ∧
    ∀ O' , Same (hid O H) (hid O' H) → l ∉ O' → Slots pr wd K O' H σ (ρ.set i (.val (.lst ds))) (L1 ++ L2)
  | _, _, _, _, .nil, e => by simp at e
  | _, _, _, 0, .un _, e => by simp at e
  | _, _, _, i + 1, .un s, e => by
    obtain ⟨L1, l, L2, xs, h1, h2, h3, h4⟩ := Slots.freeze (i := i) s (by simpa using e)
    exact ⟨L1, l, L2, xs, h1, h2, h3, fun O' a b => .un (h4 O' a b)⟩
  | _, _, _, 0, .val _ _, e => by simp at e
  | _, _, _, i + 1, .val r s, e => by
    obtain ⟨L1, l, L2, xs, h1, h2, h3, h4⟩ := Slots.freeze (i := i) s (by simpa using e)
    exact ⟨L1, l, L2, xs, h1, h2, h3, fun O' a b => .val (r.mono a) (h4 O' a b)⟩
  | _, _, _, 0, .own h r s, e => by
    simp at e
    subst e
    exact ⟨[], _, _, _, rfl, h, r, fun O' a b => .val (.lst (.inl (by rw [hid_out b]; exact h)) (r.mono a)) (s.move (fun _ _ => rfl) a)⟩
  | _, _, _, i + 1, .own h r s, e => by
    obtain ⟨L1, l, L2, xs, h1, h2, h3, h4⟩ := Slots.freeze (i := i) s (by simpa using e)
    exact ⟨_ :: L1, l, L2, xs, by rw [h1]; rfl, h2, h3, fun O' a b => .own h (r.mono a) (h4 O' a b)⟩
  | _, _, _, 0, .dic _ _, e => by simp at e
  | _, _, _, i + 1, .dic h s, e => by
    obtain ⟨L1, l, L2, xs, h1, h2, h3, h4⟩ := Slots.freeze (i := i) s (by simpa using e)
    exact ⟨_ :: L1, l, L2, xs, by rw [h1]; rfl, h2, h3, fun O' a b => .dic (h.move rfl a) (h4 O' a b)⟩
theorem Env.freeze {P : Hp} {L : List Addr} {n : Nat} {H : Hp} {σ : List (Option V)} {i : Nat} {ds : List D} (E : Env c P L n H σ ρ) (h : ρ[i]? = some (.own ds)) : ∃ L', Env c P L' n H σ (ρ.set i (.val (.lst ds))) ∧ L'.Sublist L := by
  obtain ⟨Ls, sl, sb⟩ := E.slots
  obtain ⟨L1, l, L2, xs, h1, h2, h3, h4⟩ := sl.freeze h
  have lL : l ∈ L := sb.subset (by rw [h1]; simp)
  have sub : (L.erase l).Sublist L := List.erase_sublist
  have nl : l ∉ L.erase l := E.nd.not_mem_erase
  have sb2 : (L1 ++ L2).Sublist (L.erase l) := by
    have nd := sb.nodup E.nd
    rw [h1] at nd
    have n1 : l ∉ L1 := fun q => by
      have := (List.nodup_append.mp nd).2.2 l q l List.mem_cons_self
      exact this rfl
    have q : (Ls.erase l).Sublist (L.erase l) := sb.erase l
    rw [h1, List.erase_append_right _ n1, List.erase_cons_head] at q
    exact q
  have nO : l ∉ (L.erase l) ++ c.O := fun q => by
    rcases List.mem_append.mp q with q | q
    · exact nl q
    · exact (E.fresh l lL).2 q
  have se : Same (hid (L ++ c.O) H) (hid ((L.erase l) ++ c.O) H) := same_hid_sub fun a ha => by
    rcases List.mem_append.mp ha with q | q
    · exact List.mem_append_left _ (sub.subset q)
    · exact List.mem_append_right _ q
  exact ⟨L.erase l, { nd := sub.nodup E.nd, fresh := fun l hl => E.fresh l (sub.subset hl), slots := ⟨_, h4 _ se nO, sb2⟩, lst := fun l hl => E.lst l (sub.subset hl), base := E.base, pers := E.pers.trans se, bO := E.bO, al := E.al, bag := E.bag }, sub⟩
/-- an own list is handed on, no more changed -/
theorem ws_freeze (i : Nat) {ds : List D} (h : ρ[i]? = some (.own ds)) (k : WS c ts (ρ.set i (.val (.lst ds))) n Ψ) : WS c ts ρ n Ψ := fun P L σ H Dn E A => by
  obtain ⟨L', E', _⟩ := E.freeze h
  exact k P L' σ H Dn E' A
/-- an own list looked at; a scalar comes out -/
def scalar : D → Bool
  | .non => true
  | .bl _ => true
  | .int _ => true
  | .str _ => true
  | _ => false
theorem Rp.scal {K : PySem.W.Frag} {H H' : Hp} {v : V} {d : D} (r : Rp K H v d) (h : scalar d = true) : Rp K H' v d := by
  cases r with
  | non => exact .non
  | bl b => exact .bl b
  | int i => exact .int i
  | str x => exact .str x
  | _ => cases h
theorem wt_look (i : Nat) {Φ : Nat → Bool → Prop} {ds : List D} (h : ρ[i]? = some (.own ds)) (k : WT c t (ρ.set i (.val (.lst ds))) n Φ) : WT c t ρ n Φ := fun P L σ H Q E q => by
  obtain ⟨L', E', sub⟩ := E.freeze h
  exact k P L' σ H Q E' fun b n1 H1 s1 j1 k1 => q b n1 H1 s1 j1 k1
theorem we_look (i : Nat) {ds : List D} (h : ρ[i]? = some (.own ds)) (k : WE c te (ρ.set i (.val (.lst ds))) n fun n1 d => scalar d = true ∧ Φ n1 d) : WE c te ρ n Φ := fun P L σ H Q E q => by
  obtain ⟨L', E', sub⟩ := E.freeze h
  exact k P L' σ H Q E' fun v d n1 H1 s1 j1 r1 ⟨hs, k1⟩ => q v d n1 H1 s1 j1 (r1.scal hs) k1
theorem ws_ret (h : WE c te ρ n Ψ.rt) : WS c (tRet te) ρ n Ψ := fun P L σ H Dn E A => by
  refine h P L σ H _ E fun v d n1 H1 s1 j1 r1 k => ?_
  have E1 := E.step s1 j1
  have se : Same (hid (L ++ c.O) H1) (hid c.O H1) := same_hid_sub fun a ha => List.mem_append_right _ ha
  exact A.rt v d n1 H1 E1.base j1 (r1.mono se) k
theorem ws_retN (k : Ψ.rt n .non) : WS c tRetN ρ n Ψ := fun P L σ H Dn E A => by
  have se : Same (hid (L ++ c.O) H) (hid c.O H) := same_hid_sub fun a ha => List.mem_append_right _ ha
  exact A.rt .non .non n H E.base E.bag .non k
theorem ws_if (h : WT c t ρ n fun n1 b => if b = true then WS c ts ρ n1 Ψ else WS c us ρ n1 Ψ) : WS c (tIfS t ts us) ρ n Ψ := fun P L σ H Dn E A => by
  refine h P L σ H _ E fun b n1 H1 s1 j1 k => ?_
  cases b with
  | true =>
    rw [if_pos rfl] at k ⊢
    exact k P L σ H1 Dn (E.step s1 j1) A
  | false =>
    rw [if_neg Bool.false_ne_true] at k ⊢
    exact k P L σ H1 Dn (E.step s1 j1) A
theorem ws_drop (h : WE c te ρ n fun n1 _ => Ψ.nx n1 ρ) : WS c (tDrop te) ρ n Ψ := fun P L σ H Dn E A => by
  refine h P L σ H _ E fun v d n1 H1 s1 j1 r1 k => ?_
  exact A.nx L n1 H1 σ ρ (E.step s1 j1) k
theorem ws_never (h : False) : WS c ts ρ n Ψ := h.elim
theorem WS.mono {Ψ' : Out} (h : WS c ts ρ n Ψ) (h1 : ∀ n ρ, Ψ.nx n ρ → Ψ'.nx n ρ) (h2 : ∀ n d, Ψ.rt n d → Ψ'.rt n d) (h3 : ∀ n ρ, Ψ.bk n ρ → Ψ'.bk n ρ) (h4 : ∀ n ρ, Ψ.ct n ρ → Ψ'.ct n ρ) : WS c ts ρ n Ψ' := fun P L σ H Dn E A =>
  h P L σ H Dn E { nx := fun L n H σ ρ E k => A.nx L n H σ ρ E (h1 _ _ k), rt := fun v d n H s j r k => A.rt v d n H s j r (h2 _ _ k), bk := fun L n H σ ρ E k => A.bk L n H σ ρ E (h3 _ _ k), ct := fun L n H σ ρ E k => A.ct L n H σ ρ E (h4 _ _ k) }
theorem WE.mono {Φ' : Nat → D → Prop} (h : WE c te ρ n Φ) (k : ∀ n d, Φ n d → Φ' n d) : WE c te ρ n Φ' := fun P L σ H Q E q => h P L σ H Q E fun v d n1 H1 s1 j1 r1 p => q v d n1 H1 s1 j1 r1 (k _ _ p)
theorem WT.mono {Φ Φ' : Nat → Bool → Prop} (h : WT c t ρ n Φ) (k : ∀ n d, Φ n d → Φ' n d) : WT c t ρ n Φ' := fun P L σ H Q E q => h P L σ H Q E fun v n1 H1 s1 j1 p => q v n1 H1 s1 j1 (k _ _ p)

/-! ### targets -/
theorem wg_name {R : ER → ER → Prop} {i : Nat} {d : D} {Φ : List SD → Prop} (hR : ∀ σ v, R σ (σ.set i (some v))) (k : Φ (ρ.set i (.val d))) : WG c R (gName i) d ρ n Φ := fun P L σ H v Q E r q =>
  q _ _ (E.set i r) (hR σ v) k
theorem wgs_nil {R : ER → ER → Prop} {Φ : List SD → Prop} (hR : ∀ σ, R σ σ) (k : Φ ρ) : WGs c R gNil [] ρ n Φ := fun P L σ H vs Q E r q => by
  cases r
  exact ⟨rfl, q σ ρ E (hR σ) k⟩
theorem wgs_cons {R : ER → ER → Prop} {g : TG} {gs : TGs} {d : D} {ds : List D} {Φ : List SD → Prop} (hR : ∀ a b e, R a b → R b e → R a e) (h : WG c R g d ρ n fun ρ1 => WGs c R gs ds ρ1 n Φ) : WGs c R (gCons g gs) (d :: ds) ρ n Φ := fun P L σ H vs Q E r q => by
  cases r with
  | cons r1 r2 =>
    refine ⟨_, _, rfl, ?_⟩
    refine h P L σ H _ _ E r1 fun σ' ρ' E' hR1 k => ?_
    exact k P L σ' H _ _ E' r2 fun σ2 ρ2 E2 hR2 k2 => q σ2 ρ2 E2 (hR _ _ _ hR1 hR2) k2
theorem wg_tup {R : ER → ER → Prop} {m : Nat} {gs : TGs} {ds : List D} {Φ : List SD → Prop} (hl : ds.length = m) (h : WGs c R gs ds ρ n Φ) : WG c R (gTup c.K m gs) (.tup ds) ρ n Φ := fun P L σ H v Q E r q => by
  cases r with
  | tup hs ha =>
    exact ⟨_, _, rfl, same_t same_hid hs, by rw [ha.length]; exact hl, h P L σ H _ Q E ha q⟩

/-! ### loops -/
theorem ws_for {wi : TI} {g : TG} (h : WI c wi ρ n fun n1 ds => ∃ I : Nat → Nat → List SD → Prop, I 0 n1 ρ ∧
    (∀ k m ρ1 d, ds[k]? = some d → I k m ρ1 → WG c (fun _ _ => True) g d ρ1 m fun ρ2 => WS c ts ρ2 m { nx := I (k + 1), ct := I (k + 1), bk := Ψ.nx, rt := Ψ.rt }) ∧ (∀ m ρ1, I ds.length m ρ1 → Ψ.nx m ρ1)) : WS c (tFor wi g ts) ρ n Ψ := fun P L σ H Dn E A => by
  refine h P L σ H _ E fun J ds n1 H1 s1 j1 it ⟨I, h0, hs, hd⟩ => ?_
  have E1 := (E.step s1 j1).pers'
  have pp : Same P (hid (L ++ c.O) H1) := (E.step s1 j1).pers
  have A' : Acc c (hid (L ++ c.O) H1) Ψ Dn := { nx := fun L n H σ ρ E k => A.nx L n H σ ρ (E.persOf pp) k, rt := A.rt, bk := fun L n H σ ρ E k => A.bk L n H σ ρ (E.persOf pp) k, ct := fun L n H σ ρ E k => A.ct L n H σ ρ (E.persOf pp) k }
  refine ⟨fun i m σ H => m + i = ds.length ∧ ∃ L' n' ρ', Env c (hid (L ++ c.O) H1) L' n' H σ ρ' ∧ I i n' ρ', ⟨ds.length, rfl, L, n1, ρ, E1, h0⟩, ?_⟩
  rintro i m σ' H' ⟨hm, L', n', ρ', E', hI⟩
  by_cases hi : i < ds.length
  · right
    have hg : ds[i]? = some ds[i] := List.getElem?_eq_getElem hi
    obtain ⟨go, yl⟩ := it.go L' n' H' σ' ρ' E' i _ hg
    refine ⟨go, fun σ2 H2 => ∃ L2 n2 ρ2, Env c (hid (L ++ c.O) H1) L2 n2 H2 σ2 ρ2 ∧ I (i + 1) n2 ρ2, ?_, ?_⟩
    · rintro σ2 H2 ⟨L2, n2, ρ2, E2, hI2⟩
      exact ⟨m - 1, by omega, by omega, L2, n2, ρ2, E2, hI2⟩
    · intro x H2 hy
      obtain ⟨sm, rx⟩ := yl x H2 hy
      have z := E'.same sm
      refine hs i n' ρ' _ hg hI _ L' σ' H2 x _ (E'.step z.1 z.2) rx fun σ3 ρ3 E3 _ k3 => ?_
      exact k3 _ L' σ3 H2 _ E3 { nx := fun L n H σ ρ E k => ⟨L, n, ρ, E, k⟩, rt := A.rt, bk := fun L n H σ ρ E k => A'.nx L n H σ ρ E k, ct := fun L n H σ ρ E k => ⟨L, n, ρ, E, k⟩ }
  · left
    have e : i = ds.length := by omega
    subst e
    exact ⟨it.stop L' n' H' σ' ρ' E' _ (Nat.le_refl _), A'.nx L' n' H' σ' ρ' E' (hd n' ρ' hI)⟩
end
end L3
/-! L3c: walks, comprehensions, operations. -/
namespace L3
open PySem L2

/-! ### walks -/
def signs (z : Str) : List D := z.cps.toList.map fun c => D.str ⟨#[c]⟩
def items : D → Option (List D)
  | .lst xs => some xs
  | .tup xs => some xs
  | .str z => some (signs z)
  | _ => none
def iSeq (K : PySem.W.Frag) (tl : TE) : TI := fun σ H R => tl σ H fun x H1 => (∃ a, x = .ref a ∧ (((∃ xs, SqL K H1 a xs) ∧ R (Itl K a) H1) ∨ ((∃ xs, SqT K H1 a xs) ∧ R (Itt K a) H1)))
theorem pi_seq {X : Cx} {tg l : Expr} {tl : TE} (hl : PE X l tl) : PI X tg l (iSeq X.K tl) := by
  refine ⟨fun pins s σ H R I h => ?_⟩
  refine thn (hl.run pins s σ H _ I h) fun v s1 ⟨x, H1, I1, r1, q1⟩ => ?_
  obtain ⟨a, e, ⟨⟨xs, hq⟩, q⟩ | ⟨⟨xs, hq⟩, q⟩⟩ := q1
  · subst e
    cases r1
    obtain ⟨its, rv, p, hz⟩ := I1.list hq
    refine wpAny_pyIter_list p.isList ?_
    refine ⟨s1.heap.objs.size, [s1.heap.objs.size], _, _, H1, rfl, I1.kept (t' := s1.toks) fun b o e => Heap.get?_push_of_some _ e, turn_list a _, ⟨_, Heap.get?_push_size _ rfl, rfl, rfl⟩, fun b hb => ?_, q⟩
    have e : b = s1.heap.objs.size := by simpa using hb
    subst e
    exact I1.fpOk (Nat.le_refl _) (I1.hok.fresh (Nat.le_refl _))
  · subst e
    cases r1
    obtain ⟨its, rv, p, hz⟩ := I1.tuple hq
    refine wpAny_pyIter_tuple (show s1.heap.IsTuple a its.toArray from p) ?_
    refine ⟨s1.heap.objs.size, [s1.heap.objs.size], _, _, H1, rfl, I1.kept (t' := s1.toks) fun b o e => Heap.get?_push_of_some _ e, turn_tuple a _, ⟨_, Heap.get?_push_size _ rfl, rfl, rfl⟩, fun b hb => ?_, q⟩
    have e : b = s1.heap.objs.size := by simpa using hb
    subst e
    exact I1.fpOk (Nat.le_refl _) (I1.hok.fresh (Nat.le_refl _))
section
variable {c : Ctx} {ρ : List SD} {n : Nat} {ta tb te : TE} {t u : TT} {as : TA} {Φ : Nat → D → Prop} {Ψ : Out} {ts us : TS}
theorem Env.perR {P : Hp} {L : List Addr} {n : Nat} {H : Hp} {σ : List (Option V)} (E : Env c P L n H σ ρ) : Same P H := E.pers.trans same_hid
theorem it_l {a : Addr} {xs : List V} {ds : List D} {P : Hp} (hs : SqL c.K P a xs) (hr : RpAll c.K P xs ds) : ItOk c (Itl c.K a) ds P where
  go := fun L n H σ ρ E i d hd => by
    obtain ⟨v, h1, h2⟩ := hr.get' hd
    refine ⟨⟨xs, v, same_l E.perR hs, h1⟩, fun x H' ⟨e, hy⟩ => ?_⟩
    subst e
    have e := hy xs (same_l E.perR hs)
    rw [h1] at e
    cases e
    exact ⟨Same.refl _, h2.mono E.pers⟩
  stop := fun L n H σ ρ E i hi => ⟨xs, same_l E.perR hs, by rw [hr.length]; exact hi⟩
theorem it_t {a : Addr} {xs : List V} {ds : List D} {P : Hp} (hs : SqT c.K P a xs) (hr : RpAll c.K P xs ds) : ItOk c (Itt c.K a) ds P where
  go := fun L n H σ ρ E i d hd => by
    obtain ⟨v, h1, h2⟩ := hr.get' hd
    refine ⟨⟨xs, v, same_t E.perR hs, h1⟩, fun x H' ⟨e, hy⟩ => ?_⟩
    subst e
    have e := hy xs (same_t E.perR hs)
    rw [h1] at e
    cases e
    exact ⟨Same.refl _, h2.mono E.pers⟩
  stop := fun L n H σ ρ E i hi => ⟨xs, same_t E.perR hs, by rw [hr.length]; exact hi⟩
def seqD : D → Option (List D)
  | .lst xs => some xs
  | .tup xs => some xs
  | _ => none
theorem wi_seq {Φ : Nat → List D → Prop} (h : WE c te ρ n fun n1 d => ∃ ds, seqD d = some ds ∧ Φ n1 ds) : WI c (iSeq c.K te) ρ n Φ := fun P L σ H R E q => by
  refine h P L σ H _ E fun x d n1 H1 s1 j1 r1 ⟨ds, e, k⟩ => ?_
  cases r1 with
  | lst hs ha =>
    cases e
    exact ⟨_, rfl, .inl ⟨⟨_, .inl (same_rd same_hid hs)⟩, q _ _ n1 H1 s1 j1 (it_l (.inl hs) ha) k⟩⟩
  | tup hs ha =>
    cases e
    exact ⟨_, rfl, .inr ⟨⟨_, same_t same_hid hs⟩, q _ _ n1 H1 s1 j1 (it_t hs ha) k⟩⟩
  | _ => cases e
def rangeD (lo : Int) (m : Nat) : List D := (List.range m).map fun k => D.int (lo + (k : Nat))
theorem rangeD_get {lo : Int} {m i : Nat} {d : D} (h : (rangeD lo m)[i]? = some d) : i < m ∧ d = .int (lo + i) := by
  unfold rangeD at h
  rw [List.getElem?_map] at h
  by_cases hi : i < m
  · rw [List.getElem?_range hi] at h
    exact ⟨hi, (Option.some.inj h).symm⟩
  · rw [List.getElem?_eq_none (by simp; omega)] at h
    cases h
theorem rangeD_len {lo : Int} {m : Nat} : (rangeD lo m).length = m := by unfold rangeD; simp
theorem it_r {lo : Int} {m : Nat} {P : Hp} : ItOk c (Itr lo m) (rangeD lo m) P where
  go := fun L n H σ ρ E i d hd => by
    obtain ⟨h1, h2⟩ := rangeD_get hd
    refine ⟨h1, fun x H' ⟨e, hy⟩ => ?_⟩
    subst e; subst hy; subst h2
    exact ⟨Same.refl _, .int _⟩
  stop := fun L n H σ ρ E i hi => by rw [rangeD_len] at hi; exact hi
theorem wi_rng1 {Φ : Nat → List D → Prop} (h : WA c as ρ n fun n1 ds => ∃ j : Int, ds = [.int j] ∧ -(2 ^ 62) ≤ j ∧ j < 2 ^ 62 ∧ Φ n1 (rangeD 0 j.toNat)) : WI c (iRng1 as) ρ n Φ := fun P L σ H R E q => by
  refine h P L σ H _ E fun vs ds n1 H1 s1 j1 r1 ⟨j, e, h1, h2, k⟩ => ?_
  subst e
  cases r1 with
  | cons r rr =>
    cases rr
    cases r
    exact ⟨j, rfl, h1, h2, q _ _ n1 H1 s1 j1 it_r k⟩
theorem wi_rng2 {Φ : Nat → List D → Prop} (h : WA c as ρ n fun n1 ds => ∃ i j : Int, ds = [.int i, .int j] ∧ (-(2 ^ 62) ≤ i ∧ i < 2 ^ 62 ∧ -(2 ^ 62) ≤ j ∧ j < 2 ^ 62) ∧ Φ n1 (rangeD i (j - i).toNat)) : WI c (iRng2 as) ρ n Φ := fun P L σ H R E q => by
  refine h P L σ H _ E fun vs ds n1 H1 s1 j1 r1 ⟨i, j, e, h1, k⟩ => ?_
  subst e
  cases r1 with
  | cons r rr =>
    cases rr with
    | cons r2 rr =>
      cases rr
      cases r
      cases r2
      exact ⟨i, j, rfl, h1, q _ _ n1 H1 s1 j1 it_r k⟩
/-- pairs (i, x) -/
def enumD (i : Int) : List D → List D
  | [] => []
  | d :: ds => .tup [.int i, d] :: enumD (i + 1) ds
theorem enumD_len : ∀ (ds : List D) (i : Int), (enumD i ds).length = ds.length
  | [], _ => rfl
  | _ :: ds, i => by show (enumD (i + 1) ds).length + 1 = ds.length + 1; rw [enumD_len ds]
theorem enumD_get : ∀ {ds : List D} {i : Int} {k : Nat} {d : D}, (enumD i ds)[k]? = some d → ∃ e, ds[k]? = some e ∧ d = .tup [.int (i + k), e]
  | [], i, k, d, h => by simp [enumD] at h
  | x :: ds, i, 0, d, h => by
    simp [enumD] at h
    exact ⟨x, rfl, by rw [← h]; simp⟩
  | x :: ds, i, k + 1, d, h => by
    obtain ⟨e, h1, h2⟩ := enumD_get (ds := ds) (i := i + 1) (k := k) (by simpa [enumD] using h)
    refine ⟨e, by simpa using h1, ?_⟩
    rw [h2]
    have : i + 1 + (k : Int) = i + ((k + 1 : Nat) : Int) := by omega
    rw [this]
theorem it_e {a : Addr} {xs : List V} {ds : List D} {P : Hp} (hs : SqL c.K P a xs) (hr : RpAll c.K P xs ds) : ItOk c (Ite c.K a) (enumD 0 ds) P where
  go := fun L n H σ ρ E i d hd => by
    obtain ⟨e, h1, h2⟩ := enumD_get hd
    obtain ⟨v, g1, g2⟩ := hr.get' h1
    subst h2
    refine ⟨⟨xs, v, same_l E.perR hs, g1⟩, fun x H' ⟨T, y, e1, e2, e3, hy⟩ => ?_⟩
    subst e1; subst e3
    have e4 := hy xs (same_l E.perR hs)
    rw [g1] at e4
    cases e4
    have sm := same_upd_new (o := .tup [.int (i : Nat), v]) e2
    refine ⟨sm, .tup (.inl (.inl (hid_at (E.noO T e2)))) (.cons ?_ (.cons ((g2.mono E.pers).mono (same_hid_of sm)) .nil))⟩
    have e5 : (0 : Int) + (i : Int) = (i : Int) := by omega
    rw [e5]
    exact .int _
  stop := fun L n H σ ρ E i hi => by
    rw [enumD_len] at hi
    exact ⟨xs, same_l E.perR hs, by rw [hr.length]; exact hi⟩
theorem wi_enum {Φ : Nat → List D → Prop} (h : WA c as ρ n fun n1 ds => ∃ xs, ds = [.lst xs] ∧ Φ n1 (enumD 0 xs)) : WI c (iEnum c.K as) ρ n Φ := fun P L σ H R E q => by
  refine h P L σ H _ E fun vs ds n1 H1 s1 j1 r1 ⟨xs, e, k⟩ => ?_
  subst e
  cases r1 with
  | cons r rr =>
    cases rr
    cases r with
    | lst hs ha => exact ⟨_, _, rfl, .inl (same_rd same_hid hs), q _ _ n1 H1 s1 j1 (it_e (.inl hs) ha) k⟩

/-! ### comprehensions -/
def wipeR (ρ : List SD) : List Nat → List SD
  | [] => ρ
  | v :: vs => (wipeR ρ vs).set v .un
theorem Slots.unset {pr : Program} {wd : World} {K : PySem.W.Frag} {O : List Addr} {H : Hp} : ∀ {σ : List (Option V)} {ρ : List SD} {L : List Addr} (i : Nat), Slots pr wd K O H σ ρ L → ∃ L', Slots pr wd K O H (σ.set i none) (ρ.set i .un) L' ∧ L'.Sublist L
  | _, _, _, _, .nil => ⟨[], .nil, List.Sublist.refl _⟩
  | _, _, _, 0, .un s => ⟨_, .un s, List.Sublist.refl _⟩
  | _, _, _, 0, .val _ s => ⟨_, .un s, List.Sublist.refl _⟩
  | _, _, _, 0, .own _ _ s => ⟨_, .un s, List.sublist_cons_self _ _⟩
  | _, _, _, i + 1, .un s => by
    obtain ⟨L', h1, h2⟩ := Slots.unset i s
    exact ⟨L', .un h1, h2⟩
  | _, _, _, i + 1, .val h s => by
    obtain ⟨L', h1, h2⟩ := Slots.unset i s
    exact ⟨L', .val h h1, h2⟩
  | _, _, _, i + 1, .own h r s => by
    obtain ⟨L', h1, h2⟩ := Slots.unset i s
    exact ⟨_ :: L', .own h r h1, h2.cons_cons _⟩
  | _, _, _, 0, .dic _ s => ⟨_, .un s, List.sublist_cons_self _ _⟩
  | _, _, _, i + 1, .dic h s => by
    obtain ⟨L', h1, h2⟩ := Slots.unset i s
    exact ⟨_ :: L', .dic h h1, h2.cons_cons _⟩
theorem Slots.wipe {pr : Program} {wd : World} {K : PySem.W.Frag} {O : List Addr} {H : Hp} {σ : List (Option V)} {ρ : List SD} {L : List Addr} (s : Slots pr wd K O H σ ρ L) : ∀ vs : List Nat, ∃ L', Slots pr wd K O H (wipe σ vs) (wipeR ρ vs) L' ∧ L'.Sublist L
  | [] => ⟨L, s, List.Sublist.refl _⟩
  | v :: vs => by
    obtain ⟨L1, h1, h2⟩ := Slots.wipe s vs
    obtain ⟨L2, h3, h4⟩ := h1.unset v
    exact ⟨L2, h3, h4.trans h2⟩
theorem wipe_set {σ : List (Option V)} {i : Nat} {v : V} : ∀ {vs : List Nat}, i ∈ vs → wipe (σ.set i (some v)) vs = wipe σ vs
  | w :: vs, h => by
    show (wipe (σ.set i (some v)) vs).set w none = (wipe σ vs).set w none
    by_cases hi : i ∈ vs
    · rw [wipe_set hi]
    · have hw : w = i := by
        rcases List.mem_cons.mp h with e | e
        · exact e.symm
        · exact absurd e hi
      subst hw
      have z : ∀ us : List Nat, w ∉ us → wipe (σ.set w (some v)) us = (wipe σ us).set w (some v) := by
        intro us
        induction us with
        | nil => intro _; rfl
        | cons u us ih =>
          intro hn
          show (wipe (σ.set w (some v)) us).set u none = ((wipe σ us).set u none).set w (some v)
          rw [ih fun q => hn (List.mem_cons_of_mem _ q)]
          exact List.set_comm _ _ fun e => hn (by rw [e]; exact List.mem_cons_self)
      rw [z vs hi, List.set_set]
theorem wipe_get {i : Nat} : ∀ {vs : List Nat} {σ : List (Option V)}, (wipe σ vs)[i]? = if i ∈ vs then σ[i]?.map fun _ => none else σ[i]?
  | [], σ => by simp [wipe]
  | v :: vs, σ => by
    show ((wipe σ vs).set v none)[i]? = _
    rw [List.getElem?_set]
    by_cases e : v = i
    · subst e
      rw [if_pos rfl, if_pos List.mem_cons_self]
      by_cases hl : v < (wipe σ vs).length
      · rw [if_pos hl]
        rw [wipe_length] at hl
        rw [List.getElem?_eq_getElem hl]; rfl
      · rw [if_neg hl]
        rw [wipe_length] at hl
        rw [List.getElem?_eq_none (by omega)]; rfl
    · rw [if_neg e, wipe_get]
      by_cases h : i ∈ vs
      · rw [if_pos h, if_pos (List.mem_cons_of_mem _ h)]
      · rw [if_neg h, if_neg (fun q => by rcases List.mem_cons.mp q with z | z; exact e z.symm; exact h z)]
theorem wipe_idem (σ : List (Option V)) (vs : List Nat) : wipe (wipe σ vs) vs = wipe σ vs := by
  apply List.ext_getElem?
  intro i
  rw [wipe_get, wipe_get]
  by_cases h : i ∈ vs
  · rw [if_pos h, if_pos h]; cases σ[i]? <;> rfl
  · rw [if_neg h, if_neg h]
theorem Slots.inj {pr : Program} {wd : World} {K : PySem.W.Frag} {O O' : List Addr} {H H' : Hp} : ∀ {σ : List (Option V)} {ρ : List SD} {L L' : List Addr}, Slots pr wd K O H σ ρ L → Slots pr wd K O' H' σ ρ L' → L = L'
  | _, _, _, _, .nil, .nil => rfl
  | _, _, _, _, .un s, .un t => Slots.inj s t
  | _, _, _, _, .val _ s, .val _ t => Slots.inj s t
  | _, _, _, _, .own _ _ s, .own _ _ t => by rw [Slots.inj s t]
  | _, _, _, _, .dic _ s, .dic _ t => by rw [Slots.inj s t]
theorem Env.noneB {P : Hp} {L : List Addr} {n n' : Nat} {H H' : Hp} {σ : List (Option V)} (E : Env c P L n H σ ρ) (e : Same (hid c.B H) (hid c.B H')) (j : c.J n' H') {p : Addr} (hp : H' p = none) : H p = none := by
  cases h : H p with
  | none => rfl
  | some o =>
    by_cases hb : p ∈ c.B
    · exact absurd hp ((E.step e j).al p (E.inO hb))
    · rw [(hid_some.mp (e p o (hid_some.mpr ⟨hb, h⟩))).2] at hp
      cases hp
theorem same_upd_old {B : List Addr} {H H' : Hp} {D : Addr} {o : HO} (h : H D = none) (s : Same (hid B H) (hid B H')) : Same (hid B H) (hid B (upd H' D o)) := fun a u e => by
  obtain ⟨h1, h2⟩ := hid_some.mp (s a u e)
  have ne : a ≠ D := fun q => by
    rw [q, hid_some, h] at e
    cases e.2
  exact hid_some.mpr ⟨h1, by rw [upd_ne ne]; exact h2⟩
/-- what the store to a comprehension's own names leaves -/
abbrev RW (vs : List Nat) : ER → ER → Prop := fun a b => wipe b vs = wipe a vs
theorem rw_name {vs : List Nat} {i : Nat} (h : i ∈ vs) : ∀ (σ : ER) (v : V), RW vs σ (σ.set i (some v)) := fun σ v => wipe_set h
theorem rw_refl {vs : List Nat} : ∀ σ : ER, RW vs σ σ := fun _ => rfl
theorem rw_trans {vs : List Nat} : ∀ a b e : ER, RW vs a b → RW vs b e → RW vs a e := fun _ _ _ h1 h2 => h2.trans h1
/-- the new list of a comprehension grows -/
theorem Env.grow {P : Hp} {L : List Addr} {n : Nat} {H : Hp} {σ : List (Option V)} {D : Addr} {xs : List V} {Ls : List Addr} (E : Env c P L n H σ ρ) (hD : D ∈ L) (sl : Slots c.pr c.wd c.K (L ++ c.O) H σ ρ Ls) (sb : Ls.Sublist L) (hn : D ∉ Ls) : Env c P L n (upd H D (.lst xs)) σ ρ := by
  have hm : D ∈ L ++ c.O := List.mem_append_left _ hD
  have hB : D ∉ c.B := E.notB hD
  have hO : D ∉ c.O := (E.fresh D hD).2
  exact { nd := E.nd, fresh := E.fresh,
          slots := ⟨Ls, sl.move (fun l hl => upd_ne fun e => hn (e ▸ hl)) (by rw [hid_upd_in hm]; exact Same.refl _), sb⟩,
          lst := fun l hl => by
            by_cases e : l = D
            · exact ⟨_, by rw [e, upd_same]⟩
            · rw [upd_ne e]; exact E.lst l hl,
          bag := fun b q hb => (E.bag b q hb).move (fun o h => by rw [upd_ne fun e : b = D => hO (e ▸ (E.bO b q hb).1)]; exact h) fun o h => by rw [upd_ne fun e : q = D => hO (e ▸ (E.bO b q hb).2.1)]; exact h,
          base := fun a o h => by
            have h0 : c.H0 D = none := (E.fresh D hD).1
            have ne : a ≠ D := fun e => by
              rw [e, hid_some] at h
              rw [h0] at h
              cases h.2
            obtain ⟨h1, h2⟩ := hid_some.mp (E.base a o h)
            exact hid_some.mpr ⟨h1, by rw [upd_ne ne]; exact h2⟩,
          pers := by rw [hid_upd_in hm]; exact E.pers,
          bO := E.bO,
          al := fun o ho => by rw [upd_ne fun e : o = D => hO (e ▸ ho)]; exact E.al o ho }
theorem Env.newOwn {P : Hp} {L : List Addr} {n : Nat} {H : Hp} {σ : List (Option V)} {D : Addr} {xs : List V} (E : Env c P L n H σ ρ) (hD : H D = none) : Env c P (D :: L) n (upd H D (.lst xs)) σ ρ := by
  have w := E.new hD
  obtain ⟨Ls, sl, sb⟩ := E.slots
  have e0 : hid ((D :: L) ++ c.O) (upd H D (.lst xs)) = hid (L ++ c.O) H := hid_new_in hD
  exact { nd := List.nodup_cons.mpr ⟨w.2.2, E.nd⟩,
          fresh := fun l hl => by
            rcases List.mem_cons.mp hl with e | e
            · subst e; exact ⟨w.1, w.2.1⟩
            · exact E.fresh l e,
          slots := ⟨Ls, sl.move (fun l hl => upd_ne fun e => w.2.2 (e ▸ sb.subset hl)) (by rw [e0]; exact Same.refl _), sb.cons _⟩,
          lst := fun l hl => by
            rcases List.mem_cons.mp hl with e | e
            · subst e; exact ⟨_, upd_same⟩
            · rw [upd_ne fun q : l = D => w.2.2 (q ▸ e)]; exact E.lst l e,
          bag := (E.newT hD).2.1,
          base := E.base.trans (E.newT hD).1,
          pers := by rw [e0]; exact E.pers,
          bO := E.bO,
          al := fun o ho => by rw [upd_ne fun e : o = D => w.2.1 (e ▸ ho)]; exact E.al o ho }
theorem wf_lc {wi : TI} {g : TG} {vs : List Nat} {Φ : Nat → List D → Prop} (h : WI c wi ρ n fun n1 ds => ∃ I : Nat → Nat → List D → Prop, I 0 n1 [] ∧
    (∀ k m acc d, ds[k]? = some d → I k m acc → WG c (RW vs) g d (wipeR ρ vs) m fun ρ2 => WT c t ρ2 m fun m2 b => if b = true then WE c te ρ2 m2 fun m3 y => acc.length < sizeLine ∧ I (k + 1) m3 (acc ++ [y]) else I (k + 1) m2 acc) ∧
    (∀ m acc, I ds.length m acc → Φ m acc)) : WF c (tLc wi g t te vs) ρ n Φ := fun P L σ H Q E q => by
  refine h P L σ H _ E fun J ds n1 H1 s1 j1 it ⟨I, h0, hs, hd⟩ => ?_
  intro D hD
  have E1 := (E.step s1 j1).pers'
  obtain ⟨Ls, sl, sb⟩ := E1.slots
  obtain ⟨Lw, slw, sbw⟩ := sl.wipe vs
  have Ew : Env c (hid (L ++ c.O) H1) L n1 H1 (wipe σ vs) (wipeR ρ vs) := E1.reslot slw (sbw.trans sb)
  have E2 := Ew.newOwn (xs := []) hD
  have DnL : D ∉ L := (E1.new hD).2.2
  -- the loop's invariant
  refine ⟨fun i m H' => m + i = ds.length ∧ ∃ n' xs acc, Env c (hid (L ++ c.O) H1) (D :: L) n' H' (wipe σ vs) (wipeR ρ vs) ∧ H' D = some (.lst xs) ∧ RpAll c.K (hid ((D :: L) ++ c.O) H') xs acc ∧ Same (hid c.B H1) (hid c.B H') ∧ I i n' acc, ⟨ds.length, rfl, n1, [], [], E2, upd_same, .nil, (E1.newT hD).1, h0⟩, ?_⟩
  rintro i m H' ⟨hm, n', xs, acc, E', hDx, hacc, sB, hI⟩
  by_cases hi : i < ds.length
  · right
    have hg : ds[i]? = some ds[i] := List.getElem?_eq_getElem hi
    obtain ⟨go, yl⟩ := it.go (D :: L) n' H' _ _ E' i _ hg
    refine ⟨go, fun H2 => ∃ n' xs acc, Env c (hid (L ++ c.O) H1) (D :: L) n' H2 (wipe σ vs) (wipeR ρ vs) ∧ H2 D = some (.lst xs) ∧ RpAll c.K (hid ((D :: L) ++ c.O) H2) xs acc ∧ Same (hid c.B H1) (hid c.B H2) ∧ I (i + 1) n' acc, ?_, ?_⟩
    · rintro H2 ⟨n2, xs2, acc2, a1, a2, a3, a4, a5⟩
      exact ⟨m - 1, by omega, by omega, n2, xs2, acc2, a1, a2, a3, a4, a5⟩
    · intro x H2 hy
      obtain ⟨sm, rx⟩ := yl x H2 hy
      have z := E'.same sm
      have E2' := E'.step z.1 z.2
      refine hs i n' acc _ hg hI _ (D :: L) _ H2 x _ E2' rx fun σ3 ρ3 E3 hw k3 => ?_
      refine ⟨hw.trans (wipe_idem σ vs), ?_⟩
      refine k3 _ (D :: L) σ3 H2 _ E3 fun b n4 H4 s4 j4 k4 => ?_
      have back : ∀ {H5 : Hp} {n5 : Nat}, Same (hid c.B H2) (hid c.B H5) → c.J n5 H5 → Env c (hid (L ++ c.O) H1) (D :: L) n5 H5 (wipe σ vs) (wipeR ρ vs) := fun s5 j5 => E2'.step s5 j5
      have own : ∀ {H5 : Hp}, Same (hid c.B H2) (hid c.B H5) → H5 D = some (.lst xs) := fun s5 => by
        rw [E2'.own s5 D List.mem_cons_self]
        exact sm D _ hDx
      have accs : ∀ {H5 : Hp}, Same (hid c.B H2) (hid c.B H5) → RpAll c.K (hid ((D :: L) ++ c.O) H5) xs acc := fun s5 => (hacc.mono (same_hid_of sm)).mono (E2'.sameLO s5)
      cases b with
      | false =>
        rw [if_neg Bool.false_ne_true] at k4 ⊢
        exact ⟨n4, xs, acc, back s4 j4, own s4, accs s4, (sB.trans z.1).trans s4, k4⟩
      | true =>
        rw [if_pos rfl] at k4 ⊢
        refine k4 _ (D :: L) σ3 H4 _ (E3.step s4 j4) fun y d n5 H5 s5 j5 r5 ⟨hz, k5⟩ => ?_
        have s45 := s4.trans s5
        refine ⟨xs, own s45, by rw [hacc.length]; exact hz, n5, xs ++ [y], acc ++ [d], ?_, upd_same, ?_, ?_, k5⟩
        · have Eb := back s45 j5
          obtain ⟨Ls5, sl5, sb5⟩ := Eb.slots
          have e5 := sl5.inj slw
          subst e5
          exact Eb.grow List.mem_cons_self sl5 sb5 fun q => DnL ((sbw.trans sb).subset q)
        · have hm : D ∈ (D :: L) ++ c.O := List.mem_append_left _ List.mem_cons_self
          rw [hid_upd_in hm]
          exact (accs s45).append (.cons r5 .nil)
        · exact same_upd_old hD ((sB.trans z.1).trans s45)
  · left
    have e : i = ds.length := by omega
    subst e
    refine ⟨it.stop (D :: L) n' H' _ _ E' _ (Nat.le_refl _), ?_⟩
    exact q D xs acc n' H' (s1.trans sB) (E.noneB s1 j1 hD) hDx hacc E'.bag (hd n' acc hI)
end
end L3
/-! L3d: operations over data. -/
namespace L3
open PySem L2

/-! ### data as the library's data -/
mutual
def dpy : D → PyData
  | .non => .none
  | .bl b => .bool b
  | .int i => .int i
  | .str s => .str s
  | .lst xs => .list (dpyAll xs)
  | .tup xs => .tuple (dpyAll xs)
  | .obj _ _ => .none
  | .adr _ => .none
  | .ty _ => .none
def dpyAll : List D → List PyData
  | [] => []
  | x :: xs => dpy x :: dpyAll xs
end
mutual
def plain : D → Bool
  | .lst xs => plainAll xs
  | .tup xs => plainAll xs
  | .obj _ _ => false
  | .adr _ => false
  | .ty _ => false
  | _ => true
def plainAll : List D → Bool
  | [] => true
  | x :: xs => plain x && plainAll xs
end
theorem dpyAll_map : ∀ xs : List D, dpyAll xs = xs.map dpy
  | [] => rfl
  | x :: xs => by show dpy x :: dpyAll xs = _; rw [dpyAll_map xs]; rfl
section
variable {K : PySem.W.Frag} {H : Hp}
mutual
theorem Rp.dp : ∀ {v : V} {d : D}, Rp K H v d → plain d = true → Dp K H v (dpy d)
  | _, _, .non, _ => .non
  | _, _, .bl b, _ => .bl b
  | _, _, .int i, _ => .int i
  | _, _, .str x, _ => .str x
  | _, _, .lst h r, p => .lst (.inl h) (RpAll.dp r p)
  | _, _, .tup h r, p => .tup h (RpAll.dp r p)
theorem RpAll.dp : ∀ {vs : List V} {ds : List D}, RpAll K H vs ds → plainAll ds = true → DpAll K H vs (dpyAll ds)
  | _, _, .nil, _ => .nil
  | _, _, .cons h r, p => by
    have p' : (plain _ && plainAll _) = true := p
    rw [Bool.and_eq_true] at p'
    exact .cons (h.dp p'.1) (r.dp p'.2)
end
mutual
theorem Dp.mono {H' : Hp} (e : Same H H') : ∀ {v : V} {d : PyData}, Dp K H v d → Dp K H' v d
  | _, _, .non => .non
  | _, _, .bl b => .bl b
  | _, _, .int i => .int i
  | _, _, .str x => .str x
  | _, _, .lst h r => .lst (same_l e h) (DpAll.mono e r)
  | _, _, .tup h r => .tup (same_t e h) (DpAll.mono e r)
theorem DpAll.mono {H' : Hp} (e : Same H H') : ∀ {vs : List V} {ds : List PyData}, DpAll K H vs ds → DpAll K H' vs ds
  | _, _, .nil => .nil
  | _, _, .cons h r => .cons (Dp.mono e h) (DpAll.mono e r)
end
end
/-- fit for == -/
def fit (d : D) : Bool := plain d && SeqAt.shaped (dpy d)
def eqD (d e : D) : Bool := PyData.eqv (dpy d) (dpy e)
theorem fit_p {d : D} (h : fit d = true) : plain d = true := (Bool.and_eq_true_iff.mp h).1
theorem fit_s {d : D} (h : fit d = true) : SeqAt.shaped (dpy d) = true := (Bool.and_eq_true_iff.mp h).2
section
variable {K : PySem.W.Frag} {Φ : D → Prop}
theorem r2_eqD {d e : D} (hd : fit d = true) (he : fit e = true) (k : Φ (.bl (eqD d e))) : R2D K (rEqD K) d e Φ := fun O H x y Q rx ry _ q =>
  ⟨dpy d, dpy e, Dp.mono same_hid (rx.dp (fit_p hd)), Dp.mono same_hid (ry.dp (fit_p he)), fit_s hd, fit_s he, q _ _ H (Same.refl _) (.bl _) k⟩
theorem r2_neD {d e : D} (hd : fit d = true) (he : fit e = true) (k : Φ (.bl (!eqD d e))) : R2D K (rNeD K) d e Φ := fun O H x y Q rx ry _ q =>
  ⟨dpy d, dpy e, Dp.mono same_hid (rx.dp (fit_p hd)), Dp.mono same_hid (ry.dp (fit_p he)), fit_s hd, fit_s he, q _ _ H (Same.refl _) (.bl _) k⟩
end
/-- in, over a list or a tuple of data -/
def rInS (K : PySem.W.Frag) (neg : Bool) : R2 := fun x y H Q => ∃ d ds, Dp K H x d ∧ (Dp K H y (.list ds) ∨ Dp K H y (.tuple ds)) ∧ SeqAt.shaped d = true ∧ SeqAt.shaped (.list ds) = true ∧ Q (.bl (if neg then !ds.any fun z => PyData.eqv z d else ds.any fun z => PyData.eqv z d)) H
theorem op_inSeq {X : Cx} (hu : X.A.units + 65 < cLine) : OpR X (compareOp .In) (rInS X.K false) := by
  intro pins s σ H x y v u Q I rx ry h
  obtain ⟨d, ds, hd, he | he, sd, se, q⟩ := h
  · obtain ⟨as, r1⟩ := Dp.reads I d x v hd rx
    obtain ⟨bs, r2⟩ := Dp.reads I (.list ds) y u he ry
    exact SeqAt.in_list_reads r2 r1 (SeqAt.canLay_of_shaped se) (SeqAt.canLay_of_shaped sd) (PyProof.Rows.room_in_shaped sd hu) ⟨.bl _, H, I, rfl, q⟩
  · obtain ⟨as, r1⟩ := Dp.reads I d x v hd rx
    obtain ⟨bs, r2⟩ := Dp.reads I (.tuple ds) y u he ry
    exact SeqAt.in_tuple_reads r2 r1 (SeqAt.canLay_of_shaped se) (SeqAt.canLay_of_shaped sd) (PyProof.Rows.room_in_shaped sd hu) ⟨.bl _, H, I, rfl, q⟩
theorem op_notInSeq {X : Cx} (hu : X.A.units + 65 < cLine) : OpR X (compareOp .NotIn) (rInS X.K true) := by
  intro pins s σ H x y v u Q I rx ry h
  obtain ⟨d, ds, hd, he | he, sd, se, q⟩ := h
  · obtain ⟨as, r1⟩ := Dp.reads I d x v hd rx
    obtain ⟨bs, r2⟩ := Dp.reads I (.list ds) y u he ry
    exact SeqAt.notIn_list_reads r2 r1 (SeqAt.canLay_of_shaped se) (SeqAt.canLay_of_shaped sd) (PyProof.Rows.room_in_shaped sd hu) ⟨.bl _, H, I, rfl, q⟩
  · obtain ⟨as, r1⟩ := Dp.reads I d x v hd rx
    obtain ⟨bs, r2⟩ := Dp.reads I (.tuple ds) y u he ry
    exact SeqAt.notIn_tuple_reads r2 r1 (SeqAt.canLay_of_shaped se) (SeqAt.canLay_of_shaped sd) (PyProof.Rows.room_in_shaped sd hu) ⟨.bl _, H, I, rfl, q⟩
def inD (d : D) (ds : List D) : Bool := ds.any fun z => eqD z d
theorem inD_py (d : D) (ds : List D) : ((dpyAll ds).any fun z => PyData.eqv z (dpy d)) = inD d ds := by
  rw [dpyAll_map, List.any_map]; rfl
theorem r2_in {K : PySem.W.Frag} {Φ : D → Prop} {d e : D} {ds : List D} (hs : seqD e = some ds) (hd : fit d = true) (he : fit (.lst ds) = true) (k : Φ (.bl (inD d ds))) : R2D K (rInS K false) d e Φ := fun O H x y Q rx ry _ q => by
  have z : PyData.list (dpyAll ds) = dpy (.lst ds) := rfl
  refine ⟨dpy d, dpyAll ds, Dp.mono same_hid (rx.dp (fit_p hd)), ?_, fit_s hd, fit_s he, ?_⟩
  · cases ry with
    | lst h r => cases hs; exact .inl (Dp.mono same_hid (.lst (.inl h) (r.dp (fit_p he))))
    | tup h r => cases hs; exact .inr (Dp.mono same_hid (.tup h (r.dp (fit_p he))))
    | _ => cases hs
  · show Q (.bl (if false = true then _ else ((dpyAll ds).any fun z => PyData.eqv z (dpy d)))) H
    rw [if_neg Bool.false_ne_true, inD_py]
    exact q _ _ H (Same.refl _) (.bl _) k
theorem r2_notIn {K : PySem.W.Frag} {Φ : D → Prop} {d e : D} {ds : List D} (hs : seqD e = some ds) (hd : fit d = true) (he : fit (.lst ds) = true) (k : Φ (.bl (!inD d ds))) : R2D K (rInS K true) d e Φ := fun O H x y Q rx ry _ q => by
  refine ⟨dpy d, dpyAll ds, Dp.mono same_hid (rx.dp (fit_p hd)), ?_, fit_s hd, fit_s he, ?_⟩
  · cases ry with
    | lst h r => cases hs; exact .inl (Dp.mono same_hid (.lst (.inl h) (r.dp (fit_p he))))
    | tup h r => cases hs; exact .inr (Dp.mono same_hid (.tup h (r.dp (fit_p he))))
    | _ => cases hs
  · show Q (.bl (if true = true then !((dpyAll ds).any fun z => PyData.eqv z (dpy d)) else _)) H
    rw [if_pos rfl, inD_py]
    exact q _ _ H (Same.refl _) (.bl _) k

/-! ### subscripts, slices -/
def ixD : D → Int → Option D
  | .lst xs, i => atI xs i
  | .tup xs, i => atI xs i
  | .str z, i => if z.length ≤ sizeLine then (atI z.cps.toList i).map fun c => .str ⟨#[c]⟩ else none
  | _, _ => none
theorem atI_rp {K : PySem.W.Frag} {H : Hp} {vs : List V} {ds : List D} {i : Int} {d : D} (r : RpAll K H vs ds) (h : atI ds i = some d) : ∃ v, atI vs i = some v ∧ Rp K H v d := by
  unfold atI at h ⊢
  rw [r.length]
  cases e : ixN ds.length i with
  | none => rw [e] at h; cases h
  | some j =>
    rw [e] at h
    exact r.get' h
theorem r2_ix {K : PySem.W.Frag} {Φ : D → Prop} {d f : D} {i : Int} (h : ixD d i = some f) (k : Φ f) : R2D K (rIx K) d (.int i) Φ := fun O H x y Q rx ry _ q => by
  cases ry
  cases rx with
  | lst hs r =>
    obtain ⟨v, h1, h2⟩ := atI_rp r h
    exact .inl ⟨_, _, i, v, rfl, rfl, .inl (same_rd same_hid hs), h1, q v f H (Same.refl _) h2 k⟩
  | tup hs r =>
    obtain ⟨v, h1, h2⟩ := atI_rp r h
    exact .inr (.inl ⟨_, _, i, v, rfl, rfl, same_t same_hid hs, h1, q v f H (Same.refl _) h2 k⟩)
  | str z =>
    have h' : (if z.length ≤ sizeLine then (atI z.cps.toList i).map fun c => D.str ⟨#[c]⟩ else none) = some f := h
    by_cases hz : z.length ≤ sizeLine
    · rw [if_pos hz] at h'
      cases e : atI z.cps.toList i with
      | none => rw [e] at h'; cases h'
      | some c =>
        rw [e] at h'
        refine .inr (.inr ⟨z, i, c, rfl, rfl, hz, e, q _ f H (Same.refl _) ?_ k⟩)
        rw [← Option.some.inj h']
        exact .str _
    · rw [if_neg hz] at h'; cases h'
  | _ => cases h
theorem ixD_nat {xs : List D} {j : Nat} {d : D} (h : xs[j]? = some d) : ixD (.lst xs) (j : Int) = some d := atI_nat h
theorem ixD_natT {xs : List D} {j : Nat} {d : D} (h : xs[j]? = some d) : ixD (.tup xs) (j : Int) = some d := atI_nat h
section
variable {c : Ctx} {ρ : List SD} {n : Nat} {ta tb te : TE} {t u : TT} {as : TA} {Φ : Nat → D → Prop} {Ψ : Out} {ts us : TS}
theorem wo_none {Φ : Nat → Option Int → Prop} (k : Φ n none) : WO c tNoPart ρ n Φ := fun P L σ H Q E q => q none n H (Same.refl _) E.bag k
theorem wo_some {Φ : Nat → Option Int → Prop} (h : WE c te ρ n fun n1 d => ∃ i, d = .int i ∧ Φ n1 (some i)) : WO c (tPart te) ρ n Φ := fun P L σ H Q E q => by
  refine h P L σ H _ E fun x d n1 H1 s1 j1 r1 ⟨i, e, k⟩ => ?_
  subst e
  cases r1
  exact ⟨i, rfl, q (some i) n1 H1 s1 j1 k⟩
def rSlS3 (K : PySem.W.Frag) : V → Option Int → Option Int → Hp → VK → Prop := fun x lo hi H Q => rSlL K x lo hi H Q ∨ rSlA K x lo hi H Q ∨ rSlS x lo hi H Q
theorem sl_seq {X : Cx} : SlR X (rSlS3 X.K) := by
  intro pins s σ H x v vl vu lo hi sl Q I rx hs pl pu h
  rcases h with h | h | h
  · exact sl_list pins s σ H x v vl vu lo hi sl Q I rx hs pl pu h
  · exact sl_tupA pins s σ H x v vl vu lo hi sl Q I rx hs pl pu h
  · exact sl_str pins s σ H x v vl vu lo hi sl Q I rx hs pl pu h
def cutD (xs : List D) (lo hi : Option Int) : List D := (xs.drop (HT.sIx xs.length 0 lo)).take (HT.sIx xs.length xs.length hi - HT.sIx xs.length 0 lo)
def slD (d : D) (lo hi : Option Int) : Option D := match d with
  | .lst xs => some (.lst (cutD xs lo hi))
  | .tup xs => some (.tup (cutD xs lo hi))
  | .str z => if z.length ≤ sizeLine then some (.str (cutS z lo hi)) else none
  | _ => none
theorem RpAll.cut {K : PySem.W.Frag} {H : Hp} {vs : List V} {ds : List D} (r : RpAll K H vs ds) (lo hi : Option Int) : RpAll K H (cutV vs lo hi) (cutD ds lo hi) := by
  unfold cutV cutD
  rw [r.length]
  exact (r.drop _).take _
theorem cutD_whole {xs : List D} {lo hi : Option Int} (h : HT.sIx xs.length 0 lo = 0 ∧ HT.sIx xs.length xs.length hi = xs.length) : cutD xs lo hi = xs := by
  unfold cutD
  rw [h.1, h.2]
  simp
theorem we_sl {tl th : TO} (h : WE c te ρ n fun n1 d => WO c tl ρ n1 fun n2 lo => WO c th ρ n2 fun n3 hi => ∃ f, slD d lo hi = some f ∧ Φ n3 f) : WE c (tSl (rSlS3 c.K) te tl th) ρ n Φ := fun P L σ H Q E q => by
  refine h P L σ H _ E fun x d n1 H1 s1 j1 r1 h1 => ?_
  have E1 := E.step s1 j1
  refine h1 P L σ H1 _ E1 fun lo n2 H2 s2 j2 h2 => ?_
  have E2 := E1.step s2 j2
  refine h2 P L σ H2 _ E2 fun hi n3 H3 s3 j3 ⟨f, e, k⟩ => ?_
  have E3 := E2.step s3 j3
  have r3 := (r1.mono (E1.sameLO s2)).mono (E2.sameLO s3)
  have s := (s1.trans s2).trans s3
  cases r3 with
  | @lst a xs ds hs r =>
    cases e
    refine .inl ⟨_, _, rfl, .inl (same_rd same_hid hs), fun p hp => ?_⟩
    have z := E3.newT (o := .lst (cutV xs lo hi)) hp
    exact q _ _ n3 _ (s.trans z.1) z.2.1 (.lst (.inl (hid_at z.2.2)) ((r.cut lo hi).mono (rp_upd (K := c.K) hp))) k
  | @tup a xs ds hs r =>
    cases e
    refine .inr (.inl ⟨_, _, rfl, same_t same_hid hs, fun hw => ?_, fun hw p hp => ?_⟩)
    · rw [r.length] at hw
      rw [cutD_whole hw] at k
      exact q _ _ n3 _ s j3 (.tup hs r) k
    · have z := E3.newT (o := .tup (cutV xs lo hi)) hp
      exact q _ _ n3 _ (s.trans z.1) z.2.1 (.tup (.inl (.inl (hid_at z.2.2))) ((r.cut lo hi).mono (rp_upd (K := c.K) hp))) k
  | str z =>
    have e' : (if z.length ≤ sizeLine then some (D.str (cutS z lo hi)) else none) = some f := e
    by_cases hz : z.length ≤ sizeLine
    · rw [if_pos hz] at e'
      cases e'
      exact .inr (.inr ⟨z, rfl, hz, q _ _ n3 _ s j3 (.str _) k⟩)
    · rw [if_neg hz] at e'; cases e'
  | _ => cases e
end

/-! ### + -/
section
variable {X : Cx}
theorem inv_rdL {pins : List (Addr × Obj)} {σ : St} {H : Hp} {s : Shared} {a : Addr} {xs : List V} (I : Inv X pins σ H s) (h : Rd H a (.lst xs)) : ∃ (its : List Value) (n : Nat), Vals xs its ∧ s.heap.get? a = some { cls := .type "list", data := .seq its.toArray n } ∧ xs.length ≤ sizeLine := by
  obtain ⟨z, its, n, r, e⟩ := h.ok I.hok
  exact ⟨its, n, r, e, z⟩
/-- list + list, whatever is read -/
def rCatL : R2 := fun x y H Q => ∃ l b xs zs, x = .ref l ∧ y = .ref b ∧ Rd H l (.lst xs) ∧ Rd H b (.lst zs) ∧ xs.length + zs.length ≤ sizeLine ∧ ∀ p, H p = none → Q (.ref p) (upd H p (.lst (xs ++ zs)))
theorem op_catL : OpR X (binaryOp .Add) rCatL := by
  intro pins s σ H x y v u Q I rx ry h
  obtain ⟨l, b, xs, zs, rfl, rfl, hH, hB, hz, q⟩ := h
  cases rx
  cases ry
  obtain ⟨its, n, r, e, z⟩ := inv_rdL I hH
  obtain ⟨its2, n2, r2, e2, z2⟩ := inv_rdL I hB
  have h1 := r.length
  have h2 := r2.length
  refine PySem.P.add_list e e2 ?_ (by rw [List.size_toArray, List.size_toArray]; omega)
  have ea : its.toArray ++ its2.toArray = (its ++ its2).toArray := by simp
  rw [ea]
  exact ⟨.ref _, _, I.lnew (t' := s.toks) (r.append r2) (by rw [List.length_append]; omega), rfl, q _ I.fresh⟩
def rAddD (K : PySem.W.Frag) : R2 := fun x y H Q => rI0 (fun i j => .int (i + j)) x y H Q ∨ (∃ i j, x = .str i ∧ y = .str j ∧ i.length + j.length ≤ sizeLine ∧ Q (.str (i ++ j)) H) ∨ rCatA K x y H Q ∨ rCatL x y H Q
theorem op_addD : OpR X (binaryOp .Add) (rAddD X.K) := op_add.or (op_add_str.or (op_catA.or op_catL))
end
def addD : D → D → Option D
  | .int i, .int j => some (.int (i + j))
  | .str s, .str t => if s.length + t.length ≤ sizeLine then some (.str (s ++ t)) else none
  | .lst a, .lst b => if a.length + b.length ≤ sizeLine then some (.lst (a ++ b)) else none
  | .tup a, .tup b => if a.length + b.length ≤ sizeLine then some (.tup (a ++ b)) else none
  | _, _ => none
theorem r2_add {K : PySem.W.Frag} {Φ : D → Prop} {d e f : D} (h : addD d e = some f) (k : Φ f) : R2D K (rAddD K) d e Φ := fun O H x y Q rx ry no q => by
  cases rx with
  | int i =>
    cases ry with
    | int j => cases h; exact .inl ⟨i, j, rfl, rfl, q _ _ H (Same.refl _) (.int _) k⟩
    | _ => cases h
  | str i =>
    cases ry with
    | str j =>
      have h' : (if i.length + j.length ≤ sizeLine then some (D.str (i ++ j)) else none) = some f := h
      by_cases hz : i.length + j.length ≤ sizeLine
      · rw [if_pos hz] at h'
        cases h'
        exact .inr (.inl ⟨i, j, rfl, rfl, hz, q _ _ H (Same.refl _) (.str _) k⟩)
      · rw [if_neg hz] at h'; cases h'
    | _ => cases h
  | @lst a xs ds hs r =>
    cases ry with
    | @lst b ys es hs2 r2 =>
      have h' : (if ds.length + es.length ≤ sizeLine then some (D.lst (ds ++ es)) else none) = some f := h
      by_cases hz : ds.length + es.length ≤ sizeLine
      · rw [if_pos hz] at h'
        cases h'
        refine .inr (.inr (.inr ⟨a, b, xs, ys, rfl, rfl, same_rd same_hid hs, same_rd same_hid hs2, by rw [r.length, r2.length]; exact hz, fun p hp => ?_⟩))
        exact q _ _ _ (same_upd_new hp) (.lst (.inl (hid_at (no p hp))) ((r.append r2).mono (rp_upd (K := K) hp))) k
      · rw [if_neg hz] at h'; cases h'
    | _ => cases h
  | @tup a xs ds hs r =>
    cases ry with
    | @tup b ys es hs2 r2 =>
      have h' : (if ds.length + es.length ≤ sizeLine then some (D.tup (ds ++ es)) else none) = some f := h
      by_cases hz : ds.length + es.length ≤ sizeLine
      · rw [if_pos hz] at h'
        cases h'
        refine .inr (.inr (.inl ⟨a, b, xs, ys, rfl, rfl, same_t same_hid hs, same_t same_hid hs2, by rw [r.length, r2.length]; exact hz, fun e => ?_, fun e1 e2 => ?_, fun _ _ p hp => ?_⟩))
        · subst e
          cases r
          exact q _ _ H (Same.refl _) (.tup hs2 r2) k
        · subst e2
          cases r2
          rw [List.append_nil] at k
          exact q _ _ H (Same.refl _) (.tup hs r) k
        · exact q _ _ _ (same_upd_new hp) (.tup (.inl (.inl (hid_at (no p hp)))) ((r.append r2).mono (rp_upd (K := K) hp))) k
      · rw [if_neg hz] at h'; cases h'
    | _ => cases h
  | _ => cases h
end L3
/-! L3e: calls of built-ins over data; a def's promise over data. -/
namespace L3
open PySem L2

/-! ### len, list, tuple, int, abs -/
section
variable {X : Cx}
def rLenD (K : PySem.W.Frag) : List V → Hp → VK → Prop := fun xs H Q => (∃ p ys, xs = [.ref p] ∧ (SqL K H p ys ∨ SqT K H p ys) ∧ Q (.int ys.length) H) ∨ ∃ z, xs = [.str z] ∧ z.length ≤ sizeLine ∧ Q (.int z.length) H
theorem call_lenX : CallR X (.builtin "len") (rLenD X.K) := call_len_seq.or call_len_str
def rListD (K : PySem.W.Frag) : List V → Hp → VK → Prop := fun xs H Q => ∃ p ys, xs = [.ref p] ∧ (SqL K H p ys ∨ SqT K H p ys) ∧ ∀ l, H l = none → Q (.ref l) (upd H l (.lst ys))
theorem call_listX : CallR X (.type "list") (rListD X.K) := call_list_of
def rTupD (K : PySem.W.Frag) : List V → Hp → VK → Prop := fun xs H Q => ∃ p ys, xs = [.ref p] ∧ ((SqL K H p ys ∧ ∀ l, H l = none → Q (.ref l) (upd H l (.tup ys))) ∨ (SqT K H p ys ∧ Q (.ref p) H))
theorem call_tupX : CallR X (.type "tuple") (rTupD X.K) := call_tuple_of
def rIntD : List V → Hp → VK → Prop := fun xs H Q => (∃ i, xs = [.int i] ∧ Q (.int i) H) ∨ ∃ k, xs = [.bl k] ∧ Q (.int (if k then 1 else 0)) H
theorem call_intX : CallR X (.type "int") rIntD := call_int1
def rAbsD : List V → Hp → VK → Prop := fun xs H Q => ∃ i, xs = [.int i] ∧ Q (.int (if i < 0 then -i else i)) H
theorem call_absX : CallR X (.builtin "abs") rAbsD := call_abs
end
theorem RpAll.one {K : PySem.W.Frag} {H : Hp} {vs : List V} {d : D} (r : RpAll K H vs [d]) : ∃ v, vs = [v] ∧ Rp K H v d := by
  cases r with
  | cons h t => cases t; exact ⟨_, rfl, h⟩
theorem RpAll.two {K : PySem.W.Frag} {H : Hp} {vs : List V} {d e : D} (r : RpAll K H vs [d, e]) : ∃ v u, vs = [v, u] ∧ Rp K H v d ∧ Rp K H u e := by
  cases r with
  | cons h t =>
    obtain ⟨u, e, h2⟩ := t.one
    exact ⟨_, u, by rw [e], h, h2⟩
section
variable {K : PySem.W.Frag} {Φ : D → Prop}
def lenD : D → Option Int
  | .lst xs => some xs.length
  | .tup xs => some xs.length
  | .str z => if z.length ≤ sizeLine then some z.length else none
  | _ => none
theorem rc_len {d : D} {m : Int} (h : lenD d = some m) (k : Φ (.int m)) : RCD K (rLenD K) [d] Φ := fun O H xs Q rs no q => by
  obtain ⟨v, rfl, r⟩ := rs.one
  cases r with
  | @lst a ys ds hs ha =>
    refine .inl ⟨a, ys, rfl, .inl (.inl (same_rd same_hid hs)), q _ _ H (Same.refl _) (.int _) ?_⟩
    rw [ha.length, Option.some.inj (show some ((ds.length : Nat) : Int) = some m from h)]
    exact k
  | @tup a ys ds hs ha =>
    refine .inl ⟨a, ys, rfl, .inr (same_t same_hid hs), q _ _ H (Same.refl _) (.int _) ?_⟩
    rw [ha.length, Option.some.inj (show some ((ds.length : Nat) : Int) = some m from h)]
    exact k
  | str z =>
    have h' : (if z.length ≤ sizeLine then some ((z.length : Nat) : Int) else none) = some m := h
    by_cases hz : z.length ≤ sizeLine
    · rw [if_pos hz] at h'
      refine .inr ⟨z, rfl, hz, q _ _ H (Same.refl _) (.int _) ?_⟩
      rw [Option.some.inj h']
      exact k
    · rw [if_neg hz] at h'; cases h'
  | _ => cases h
theorem rc_list {d : D} {ds : List D} (h : seqD d = some ds) (k : Φ (.lst ds)) : RCD K (rListD K) [d] Φ := fun O H xs Q rs no q => by
  obtain ⟨v, rfl, r⟩ := rs.one
  cases r with
  | @lst a ys ds hs ha =>
    cases h
    exact ⟨a, ys, rfl, .inl (.inl (same_rd same_hid hs)), fun l hl => q _ _ _ (same_upd_new hl) (.lst (.inl (hid_at (no l hl))) (ha.mono (rp_upd (K := K) hl))) k⟩
  | @tup a ys ds hs ha =>
    cases h
    exact ⟨a, ys, rfl, .inr (same_t same_hid hs), fun l hl => q _ _ _ (same_upd_new hl) (.lst (.inl (hid_at (no l hl))) (ha.mono (rp_upd (K := K) hl))) k⟩
  | _ => cases h
theorem rc_tup {d : D} {ds : List D} (h : seqD d = some ds) (k : Φ (.tup ds)) : RCD K (rTupD K) [d] Φ := fun O H xs Q rs no q => by
  obtain ⟨v, rfl, r⟩ := rs.one
  cases r with
  | @lst a ys ds hs ha =>
    cases h
    exact ⟨a, ys, rfl, .inl ⟨.inl (same_rd same_hid hs), fun l hl => q _ _ _ (same_upd_new hl) (.tup (.inl (.inl (hid_at (no l hl)))) (ha.mono (rp_upd (K := K) hl))) k⟩⟩
  | @tup a ys ds hs ha =>
    cases h
    exact ⟨a, ys, rfl, .inr ⟨same_t same_hid hs, q _ _ H (Same.refl _) (.tup hs ha) k⟩⟩
  | _ => cases h
theorem rc_int {i : Int} (k : Φ (.int i)) : RCD K rIntD [.int i] Φ := fun O H xs Q rs no q => by
  obtain ⟨v, rfl, r⟩ := rs.one
  cases r
  exact .inl ⟨i, rfl, q _ _ H (Same.refl _) (.int _) k⟩
theorem rc_intB {b : Bool} (k : Φ (.int (if b then 1 else 0))) : RCD K rIntD [.bl b] Φ := fun O H xs Q rs no q => by
  obtain ⟨v, rfl, r⟩ := rs.one
  cases r
  exact .inr ⟨b, rfl, q _ _ H (Same.refl _) (.int _) k⟩
theorem rc_abs {i : Int} (k : Φ (.int (if i < 0 then -i else i))) : RCD K rAbsD [.int i] Φ := fun O H xs Q rs no q => by
  obtain ⟨v, rfl, r⟩ := rs.one
  cases r
  exact ⟨i, rfl, q _ _ H (Same.refl _) (.int _) k⟩
/-- sum, max, min of a list of ints; any, all of a list of truths -/
theorem rc_sum {ns : List Int} (k : Φ (.int ns.sum)) : RCD K (rSum K) [.lst (ns.map D.int)] Φ := fun O H xs Q rs no q => by
  obtain ⟨v, rfl, r⟩ := rs.one
  cases r with
  | @lst a ys ds hs ha =>
    have e := ha.ints
    subst e
    exact ⟨a, ns, rfl, .inl (same_rd same_hid hs), q _ _ H (Same.refl _) (.int _) k⟩
theorem rc_max {ns : List Int} (hn : 0 < ns.length) (k : ∀ m, m ∈ ns → (∀ y ∈ ns, y ≤ m) → Φ (.int m)) : RCD K (rMax K) [.lst (ns.map D.int)] Φ := fun O H xs Q rs no q => by
  obtain ⟨v, rfl, r⟩ := rs.one
  cases r with
  | @lst a ys ds hs ha =>
    have e := ha.ints
    subst e
    exact ⟨a, ns, rfl, .inl (same_rd same_hid hs), hn, fun m h1 h2 => q _ _ H (Same.refl _) (.int _) (k m h1 h2)⟩
theorem rc_min {ns : List Int} (hn : 0 < ns.length) (k : ∀ m, m ∈ ns → (∀ y ∈ ns, m ≤ y) → Φ (.int m)) : RCD K (rMin K) [.lst (ns.map D.int)] Φ := fun O H xs Q rs no q => by
  obtain ⟨v, rfl, r⟩ := rs.one
  cases r with
  | @lst a ys ds hs ha =>
    have e := ha.ints
    subst e
    exact ⟨a, ns, rfl, .inl (same_rd same_hid hs), hn, fun m h1 h2 => q _ _ H (Same.refl _) (.int _) (k m h1 h2)⟩
theorem RpAll.bls {H : Hp} : ∀ {vs : List V} {bs : List Bool}, RpAll K H vs (bs.map D.bl) → vs = bs.map V.bl
  | _, [], h => by cases h; rfl
  | _, n :: ns, h => by
    cases h with
    | cons h r => cases h; rw [RpAll.bls r]; rfl
theorem rc_any {bs : List Bool} (k : Φ (.bl (bs.any id))) : RCD K (rAny K) [.lst (bs.map D.bl)] Φ := fun O H xs Q rs no q => by
  obtain ⟨v, rfl, r⟩ := rs.one
  cases r with
  | @lst a ys ds hs ha =>
    have e := ha.bls
    subst e
    exact ⟨a, bs, rfl, .inl (same_rd same_hid hs), q _ _ H (Same.refl _) (.bl _) k⟩
theorem rc_all {bs : List Bool} (k : Φ (.bl (bs.all id))) : RCD K (rAll K) [.lst (bs.map D.bl)] Φ := fun O H xs Q rs no q => by
  obtain ⟨v, rfl, r⟩ := rs.one
  cases r with
  | @lst a ys ds hs ha =>
    have e := ha.bls
    subst e
    exact ⟨a, bs, rfl, .inl (same_rd same_hid hs), q _ _ H (Same.refl _) (.bl _) k⟩

/-! ### isinstance with built-in types -/
def tyD : D → Option String
  | .non => some "NoneType"
  | .bl _ => some "bool"
  | .int _ => some "int"
  | .str _ => some "str"
  | .lst _ => some "list"
  | .tup _ => some "tuple"
  | _ => none
theorem tyD_X {H : Hp} {O : List Addr} {v : V} {d : D} {T : String} (r : Rp K (hid O H) v d) (h : tyD d = some T) : TyX K H v (.type T) := by
  cases r with
  | non => cases h; exact .base .non
  | bl b => cases h; exact .base (.bl b)
  | int i => cases h; exact .base (.int i)
  | str x => cases h; exact .base (.str x)
  | lst hs ha =>
    cases h
    rcases same_rd same_hid hs with e | ⟨o, e⟩
    · exact .base (.lst e)
    · exact .base (.frz e)
  | tup hs ha =>
    cases h
    rcases same_t same_hid hs with (e | ⟨o, e⟩) | ⟨o, its, n, hk, hc, _⟩
    · exact .base (.tup e)
    · exact .fTuple e
    · exact .kTuple hk hc
  | _ => cases h
theorem rc_isi {d : D} {T U : String} {b : Bool} (h : tyD d = some T) (hk : kitB T U = some b) (k : Φ (.bl b)) : RCD K (rIsi K) [d, .ty U] Φ := fun O H xs Q rs no q => by
  obtain ⟨v, u, rfl, r1, r2⟩ := rs.two
  cases r2
  exact ⟨v, .ty U, .type T, .type U, b, rfl, .ty U, tyD_X r1 h, kit_ty hk, q _ _ H (Same.refl _) (.bl _) k⟩
end

/-! ### sorted of data -/
section
variable {X : Cx}
abbrev LeD : D → D → Bool := PySem.W.dataLe false dpy
def sortD (ds : List D) : List D := ds.mergeSort LeD
def rSortD (K : PySem.W.Frag) : List V → Hp → VK → Prop := fun vs H Q => ∃ (O : List Addr) (v : V) (ds : List D), vs = [v] ∧ Rp K (hid O H) v (.lst ds) ∧ plainAll ds = true ∧ PySem.W.AllAlike (ds.map dpy) ∧ PySem.W.Sortable (ds.map dpy) ∧ ds.length ≤ sizeLine ∧
  (∀ d ∈ ds, (dpy d).depth ≤ 50) ∧ ∀ l ys, H l = none → RpAll K (hid O H) ys (sortD ds) → Q (.ref l) (upd H l (.lst ys))
theorem plainAll_mem : ∀ {ds : List D} {d : D}, plainAll ds = true → d ∈ ds → plain d = true
  | e :: ds, d, h, hd => by
    have h' : (plain e && plainAll ds) = true := h
    rw [Bool.and_eq_true] at h'
    rcases List.mem_cons.mp hd with q | q
    · rw [q]; exact h'.1
    · exact plainAll_mem h'.2 q
theorem each_rp {K : PySem.W.Frag} {H : Hp} : ∀ {vs : List V} {us : List Value} {ds : List D}, Vals vs us → RpAll K H vs ds → PySem.W.EachIs (fun (u : Value) (d : D) => ∃ v, RelV v u ∧ Rp K H v d) us ds
  | _, _, _, .nil, .nil => .nil
  | _, _, _, .cons r t, .cons h s => .cons ⟨_, r, h⟩ (each_rp t s)
theorem rp_each {K : PySem.W.Frag} {H : Hp} : ∀ {us : List Value} {ds : List D}, PySem.W.EachIs (fun (u : Value) (d : D) => ∃ v, RelV v u ∧ Rp K H v d) us ds → ∃ vs, Vals vs us ∧ RpAll K H vs ds
  | _, _, .nil => ⟨[], .nil, .nil⟩
  | _, _, .cons ⟨v, r, h⟩ t => by
    obtain ⟨vs, h1, h2⟩ := rp_each t
    exact ⟨v :: vs, .cons r h1, .cons h h2⟩
theorem cr_sortD (hu : X.A.units + 64 < cLine) : CallR X (.builtin "sorted") (rSortD X.K) := by
  intro pins s σ H vs us Q I r h
  obtain ⟨O, v, ds, rfl, rv, hp, hal, hk, hL, hdep, q⟩ := h
  cases rv with
  | @lst a xs _ hs ha =>
    rw [Vals.ref1 r]
    obtain ⟨its, n, rv, e, hz⟩ := inv_rdL I (same_rd same_hid hs)
    have el := each_rp rv ha
    have er : PySem.W.EachIs (fun (u : Value) (d : D) => ∃ as, Reads s.heap u (dpy d) as) its ds := by
      refine (PySem.W.each_mem el).mono ?_
      rintro u d ⟨⟨v, r1, r2⟩, hd⟩
      exact Dp.reads I (dpy d) v u (Dp.mono same_hid (r2.dp (plainAll_mem hp hd))) r1
    refine PySem.W.sorted_data (s := s) ⟨_, e, rfl, n, rfl⟩ el er hal hk hL (fun d hd => by have := hdep d hd; omega) fun out ho eo => ?_
    obtain ⟨ys, h1, h2⟩ := rp_each eo
    obtain ⟨ep, he'⟩ := PyProof.Rows.sortedAll_at s.heap its out.toArray
    have hlen : ys.length ≤ sizeLine := by rw [h1.length, ho]; exact hL
    exact ⟨.ref _, upd H (s.heap.objs.size + 1) (.lst ys), I.laid (t' := s.toks) (fun _ _ => PyProof.Rows.sortedAll_old) (Nat.le_succ _) ⟨hlen, out, ep, h1, he'⟩, rfl, q _ ys (I.hok.fresh (Nat.le_succ _)) h2⟩
end
theorem rc_sort {K : PySem.W.Frag} {Φ : D → Prop} {ds : List D} (hp : plainAll ds = true) (hal : PySem.W.AllAlike (ds.map dpy)) (hk : PySem.W.Sortable (ds.map dpy)) (hL : ds.length ≤ sizeLine) (hd : ∀ d ∈ ds, (dpy d).depth ≤ 50) (k : Φ (.lst (sortD ds))) : RCD K (rSortD K) [.lst ds] Φ := fun O H xs Q rs no q => by
  obtain ⟨v, rfl, r⟩ := rs.one
  exact ⟨O, v, ds, rfl, r, hp, hal, hk, hL, hd, fun l ys hl h => q _ _ _ (same_upd_new hl) (.lst (.inl (hid_at (no l hl))) (h.mono (rp_upd (K := K) hl))) k⟩
end L3
/-! L3f: a def's promise over data; methods of own lists. -/
namespace L3
open PySem L2

/-- the slots at a def's entry -/
def rho (N : List Str) (ds : List D) : List SD := ds.map SD.val ++ List.replicate (N.length - ds.length) .un
theorem slots_un {pr : Program} {wd : World} {K : PySem.W.Frag} {O : List Addr} {H : Hp} : ∀ m : Nat, Slots pr wd K O H (List.replicate m none) (List.replicate m .un) []
  | 0 => .nil
  | m + 1 => .un (slots_un m)
theorem slots_start {pr : Program} {wd : World} {K : PySem.W.Frag} {O : List Addr} {H : Hp} {m : Nat} : ∀ {vs : List V} {ds : List D}, RpAll K (hid O H) vs ds → Slots pr wd K O H (vs.map some ++ List.replicate m none) (ds.map SD.val ++ List.replicate m .un) []
  | _, _, .nil => slots_un m
  | _, _, .cons h r => .val h (slots_start r)
section
variable {P : Program} {w : World} {K : PySem.W.Frag} {mg : Str → Option Value} {base : Heap}
/-- THE RULE: a def by its body, over data -/
theorem fn_D {x qual : Str} {st : Stmt} {f : Addr} {fd : FuncData} {N ps : List Str} {k : Nat} {S : Spec} (F : Fun K x qual st f fd) (sc : FnScope N ps (defScope st))
    (len : ∀ bag n ds Φ, S bag n ds Φ → ds.length = ps.length)
    (body : ∀ (cdv : Value) (A : Around) (outer : List PySem.Env) (s : Shared) (H : Hp) (E : XK) (O : List Addr) (bag : Option (Addr × Addr)) (n : Nat) (ds : List D) (Φ : Nat → D → Prop), Room k (A.deeper (PyProof.Rows.envOfC qual (defScope st) s.heap.objs.size f cdv)) → S bag n ds Φ →
      ∃ t, PSs (cxOf CX0 P w K mg base N qual (defScope st) f cdv A outer s H E).nox (defBody st) t ∧ WS ⟨P, w, K, O, bag, H⟩ t (rho N ds) n { nx := fun n' _ => Φ n' .non, rt := Φ }) :
    FnOk P w K mg base CX0 (k + 1) f fd ps (spD K S) := by
  refine F.ok sc (fun vs H Q E h => ?_) (fun cdv A outer s H vs Q E hr h => ?_)
  · obtain ⟨O, bag, n, ds, Φ, _, _, r, hS, _⟩ := h
    rw [r.length]; exact len bag n ds Φ hS
  · obtain ⟨O, bag, n, ds, Φ, hb, hO, r, hS, q⟩ := h
    obtain ⟨t, ht, W⟩ := body cdv A outer s H E O bag n ds Φ hr hS
    refine ⟨t, ht, W (fun _ => none) [] _ H _ ?_ ?_⟩
    · have e : L2.start N vs = vs.map some ++ List.replicate (N.length - ds.length) none := by unfold L2.start; rw [r.length]
      exact { nd := List.nodup_nil, fresh := (fun l hl => nomatch hl), slots := ⟨[], by rw [e]; exact slots_start r, List.Sublist.refl _⟩, lst := (fun l hl => nomatch hl), bag := fun b q e => (hb b q e).1, base := Same.refl _,
              pers := (fun _ _ e => nomatch e), bO := fun b q e => (hb b q e).2, al := hO }
    · exact { nx := fun L n' H' σ ρ E k => q .non .non n' H' E.base (fun b q e => E.bag b q e) .non k,
              rt := fun v d n' H' s j r k => q v d n' H' s j r k, bk := fun _ _ _ _ _ _ k => k.elim, ct := fun _ _ _ _ _ _ k => k.elim }
end

/-! ### an own list's methods -/
section
variable {c : Ctx} {ρ : List SD} {n : Nat} {ta tb te : TE} {t u : TT} {as : TA} {Φ : Nat → D → Prop} {Ψ : Out} {ts us : TS}
/-- at an own slot the list is another one -/
theorem Slots.own_at {pr : Program} {wd : World} {K : PySem.W.Frag} {O : List Addr} {H : Hp} {ds es : List D} : ∀ {σ : List (Option V)} {ρ : List SD} {L : List Addr} {i : Nat}, Slots pr wd K O H σ ρ L → L.Nodup → ρ[i]? = some (.own ds) → ∃ l xs, σ[i]? = some (some (.ref l)) ∧ l ∈ L ∧ H l = some (.lst xs) ∧ RpAll K (hid O H) xs ds ∧
    ∀ (ys : List V), RpAll K (hid O H) ys es → hid O (upd H l (.lst ys)) = hid O H → Slots pr wd K O (upd H l (.lst ys)) σ (ρ.set i (.own es)) L
  | _, _, _, _, .nil, _, e => by simp at e
  | _, _, _, 0, .un _, _, e => by simp at e
  | _, _, _, i + 1, .un s, nd, e => by
    obtain ⟨l, xs, h1, h2, h3, h4, h5⟩ := Slots.own_at (i := i) s nd (by simpa using e)
    exact ⟨l, xs, by simpa using h1, h2, h3, h4, fun ys a b => .un (h5 ys a b)⟩
  | _, _, _, 0, .val _ _, _, e => by simp at e
  | _, _, _, i + 1, .val r s, nd, e => by
    obtain ⟨l, xs, h1, h2, h3, h4, h5⟩ := Slots.own_at (i := i) s nd (by simpa using e)
    exact ⟨l, xs, by simpa using h1, h2, h3, h4, fun ys a b => .val (by rw [b]; exact r) (h5 ys a b)⟩
  | _, _, _, 0, .own h r s, nd, e => by
    simp at e
    subst e
    exact ⟨_, _, rfl, List.mem_cons_self, h, r, fun ys a b => .own upd_same (by rw [b]; exact a) (s.move (fun l hl => upd_ne fun e => (List.nodup_cons.mp nd).1 (by rw [← e]; exact hl)) (by rw [b]; exact Same.refl _))⟩
  | _, _, _, 0, .dic _ _, _, e => by simp at e
  | _, _, _, i + 1, .dic h s, nd, e => by
    obtain ⟨l, xs, h1, h2, h3, h4, h5⟩ := Slots.own_at (i := i) s (List.nodup_cons.mp nd).2 (by simpa using e)
    exact ⟨l, xs, by simpa using h1, List.mem_cons_of_mem _ h2, h3, h4, fun ys a b => .dic (h.move (upd_ne fun e => (List.nodup_cons.mp nd).1 (by rw [e]; exact h2)) (by rw [b]; exact Same.refl _)) (h5 ys a b)⟩
  | _, _, _, i + 1, .own h r s, nd, e => by
    obtain ⟨l, xs, h1, h2, h3, h4, h5⟩ := Slots.own_at (i := i) s (List.nodup_cons.mp nd).2 (by simpa using e)
    exact ⟨l, xs, by simpa using h1, List.mem_cons_of_mem _ h2, h3, h4, fun ys a b => .own ((upd_ne fun e => (List.nodup_cons.mp nd).1 (by rw [e]; exact h2)).trans h) (by rw [b]; exact r) (h5 ys a b)⟩
theorem Env.own_at {P : Hp} {L : List Addr} {n : Nat} {H : Hp} {σ : List (Option V)} {i : Nat} {ds : List D} (E : Env c P L n H σ ρ) (h : ρ[i]? = some (.own ds)) : ∃ l xs, σ[i]? = some (some (.ref l)) ∧ H l = some (.lst xs) ∧ RpAll c.K (hid (L ++ c.O) H) xs ds ∧
    ∀ (ys : List V) (es : List D), RpAll c.K (hid (L ++ c.O) H) ys es → Env c P L n (upd H l (.lst ys)) σ (ρ.set i (.own es)) ∧ Same (hid c.B c.H0) (hid c.B (upd H l (.lst ys))) := by
  obtain ⟨Ls, sl, sb⟩ := E.slots
  have nd := sb.nodup E.nd
  obtain ⟨l, xs, h1, h2, h3, h4, _⟩ := sl.own_at (es := ds) nd h
  have lL := sb.subset h2
  have hm : l ∈ L ++ c.O := List.mem_append_left _ lL
  have hO : l ∉ c.O := (E.fresh l lL).2
  refine ⟨l, xs, h1, h3, h4, fun ys es hy => ?_⟩
  have bs : Same (hid c.B c.H0) (hid c.B (upd H l (.lst ys))) := same_upd_old (E.fresh l lL).1 E.base
  refine ⟨?_, bs⟩
  obtain ⟨l', xs', g1, g2, g3, g4, g5⟩ := sl.own_at (es := es) nd h
  rw [h1] at g1
  cases g1
  exact { nd := E.nd, fresh := E.fresh, slots := ⟨Ls, g5 ys hy (hid_upd_in hm), sb⟩,
          lst := fun a ha => by
            by_cases e : a = l
            · exact ⟨_, by rw [e, upd_same]⟩
            · rw [upd_ne e]; exact E.lst a ha,
          bag := fun b q hb => (E.bag b q hb).move (fun o h => by rw [upd_ne fun e : b = l => hO (e ▸ (E.bO b q hb).1)]; exact h) fun o h => by rw [upd_ne fun e : q = l => hO (e ▸ (E.bO b q hb).2.1)]; exact h,
          base := bs, pers := by rw [hid_upd_in hm]; exact E.pers, bO := E.bO,
          al := fun o ho => by rw [upd_ne fun e : o = l => hO (e ▸ ho)]; exact E.al o ho }
/-- x.append(e) -/
theorem ws_append {i : Nat} {ds : List D} (h0 : ρ[i]? = some (.own ds)) (h : WE c te ρ n fun n1 d => ds.length < sizeLine ∧ Ψ.nx n1 (ρ.set i (.own (ds ++ [d])))) : WS c (tDrop (tBM c.K "list" rAppend (tVar i) (tCons te tNil))) ρ n Ψ := fun P L σ H Dn E A => by
  obtain ⟨l, xs, h1, h2, h3, h4⟩ := E.own_at h0
  refine ⟨.ref l, h1, .inl ⟨rfl, xs, .inl (.inl h2)⟩, ?_⟩
  refine h P L σ H _ E fun v d n1 H1 s1 j1 r1 ⟨hz, k⟩ => ?_
  have E1 := E.step s1 j1
  obtain ⟨l', ys, g1, g2, g3, g4⟩ := E1.own_at h0
  rw [h1] at g1
  cases g1
  refine ⟨l, ys, v, rfl, rfl, g2, by rw [g3.length]; exact hz, ?_⟩
  exact A.nx L n1 _ σ _ (g4 (ys ++ [v]) (ds ++ [d]) (g3.append (.cons r1 .nil))).1 k
end
end L3
/-! L3g: the operators one by one; loops with a state; short forms. -/
namespace L3
open PySem L2
section
variable {K : PySem.W.Frag} {Φ : D → Prop} {i j : Int}
theorem r2_lt (k : Φ (.bl (decide (i < j)))) : R2D K (rI0 fun i j => .bl (decide (i < j))) (.int i) (.int j) Φ := r2_int0 (h := fun i j => .bl (decide (i < j))) (fun _ _ _ => .bl _) k
theorem r2_le (k : Φ (.bl (decide (i ≤ j)))) : R2D K (rI0 fun i j => .bl (decide (i ≤ j))) (.int i) (.int j) Φ := r2_int0 (h := fun i j => .bl (decide (i ≤ j))) (fun _ _ _ => .bl _) k
theorem r2_gt (k : Φ (.bl (decide (j < i)))) : R2D K (rI0 fun i j => .bl (decide (j < i))) (.int i) (.int j) Φ := r2_int0 (h := fun i j => .bl (decide (j < i))) (fun _ _ _ => .bl _) k
theorem r2_ge (k : Φ (.bl (decide (j ≤ i)))) : R2D K (rI0 fun i j => .bl (decide (j ≤ i))) (.int i) (.int j) Φ := r2_int0 (h := fun i j => .bl (decide (j ≤ i))) (fun _ _ _ => .bl _) k
theorem r2_sub (k : Φ (.int (i - j))) : R2D K (rI0 fun i j => .int (i - j)) (.int i) (.int j) Φ := r2_int0 (h := fun i j => .int (i - j)) (fun _ _ _ => .int _) k
theorem r2_addI (k : Φ (.int (i + j))) : R2D K (rAddD K) (.int i) (.int j) Φ := r2_add rfl k
theorem r2_mulW (hc : CMulW i j) (k : Φ (.int (i * j))) : R2D K (rI CMulW fun i j => .int (i * j)) (.int i) (.int j) Φ := r2_int (h := fun i j => .int (i * j)) (fun _ _ _ => .int _) hc k
theorem r2_mul (hc : CMul i j) (k : Φ (.int (i * j))) : R2D K (rI CMul fun i j => .int (i * j)) (.int i) (.int j) Φ := r2_int (h := fun i j => .int (i * j)) (fun _ _ _ => .int _) hc k
theorem r2_mod (hc : 0 < j) (k : Φ (.int (i % j))) : R2D K (rI (fun _ j => 0 < j) fun i j => .int (i % j)) (.int i) (.int j) Φ := r2_int (h := fun i j => .int (i % j)) (fun _ _ _ => .int _) hc k
theorem r2_fdivW (hc : CDivW i j) (k : Φ (.int (i / j))) : R2D K (rI CDivW fun i j => .int (i / j)) (.int i) (.int j) Φ := r2_int (h := fun i j => .int (i / j)) (fun _ _ _ => .int _) hc k
theorem r2_fdiv (hc : CDiv i j) (k : Φ (.int (i / j))) : R2D K (rI CDiv fun i j => .int (i / j)) (.int i) (.int j) Φ := r2_int (h := fun i j => .int (i / j)) (fun _ _ _ => .int _) hc k
theorem r2_pow (hc : CPow i j) (k : Φ (.int (i ^ j.toNat))) : R2D K (rI CPow fun i j => .int (i ^ j.toNat)) (.int i) (.int j) Φ := r2_int (h := fun i j => .int (i ^ j.toNat)) (fun _ _ _ => .int _) hc k
theorem r2_cat {a b : List D} (h : a.length + b.length ≤ 16777216) (k : Φ (.lst (a ++ b))) : R2D K (rAddD K) (.lst a) (.lst b) Φ := r2_add (if_pos (by rw [sizeLine_eq]; exact h)) k
theorem r2_catT {a b : List D} (h : a.length + b.length ≤ 16777216) (k : Φ (.tup (a ++ b))) : R2D K (rAddD K) (.tup a) (.tup b) Φ := r2_add (if_pos (by rw [sizeLine_eq]; exact h)) k
theorem r2_catS {a b : Str} (h : a.length + b.length ≤ 16777216) (k : Φ (.str (a ++ b))) : R2D K (rAddD K) (.str a) (.str b) Φ := r2_add (if_pos (by rw [sizeLine_eq]; exact h)) k
theorem r2_isN {d : D} (k : Φ (.bl (isNon d))) : R2D K rIsN d .non Φ := fun O H x y Q rx ry _ q => by
  cases ry
  exact ⟨rfl, by rw [isNon_V rx]; exact q _ _ H (Same.refl _) (.bl _) k⟩
theorem r2_notN {d : D} (k : Φ (.bl (!isNon d))) : R2D K rNotN d .non Φ := fun O H x y Q rx ry _ q => by
  cases ry
  exact ⟨rfl, by rw [isNon_V rx]; exact q _ _ H (Same.refl _) (.bl _) k⟩
theorem r2_eqI (k : Φ (.bl (decide (i = j)))) : R2D K (rEqD K) (.int i) (.int j) Φ := r2_eqD rfl rfl (by
  have e : eqD (.int i) (.int j) = decide (i = j) := by
    show (i == j) = decide (i = j)
    by_cases h : i = j <;> simp [h]
  rw [e]; exact k)
theorem r2_neI (k : Φ (.bl (!decide (i = j)))) : R2D K (rNeD K) (.int i) (.int j) Φ := r2_neD rfl rfl (by
  have e : eqD (.int i) (.int j) = decide (i = j) := by
    show (i == j) = decide (i = j)
    by_cases h : i = j <;> simp [h]
  rw [e]; exact k)
end
section
variable {c : Ctx} {ρ : List SD} {n : Nat} {ta tb te : TE} {t u : TT} {as : TA} {Φ : Nat → D → Prop} {Ψ : Out} {ts us : TS}
theorem itT {b : Bool} {A B : Prop} (h : b = true) (k : A) : if b = true then A else B := by rw [if_pos h]; exact k
theorem itF {b : Bool} {A B : Prop} (h : b = false) (k : B) : if b = true then A else B := by rw [if_neg (by rw [h]; exact Bool.false_ne_true)]; exact k
/-- an item of a mapped list -/
theorem map_at {α β : Type} {f : α → β} {l : List α} {i : Nat} {d : β} (h : (l.map f)[i]? = some d) : ∃ a, l[i]? = some a ∧ d = f a ∧ a ∈ l ∧ l.take (i + 1) = l.take i ++ [a] := by
  rw [List.getElem?_map] at h
  cases e : l[i]? with
  | none => rw [e] at h; cases h
  | some a =>
    rw [e] at h
    exact ⟨a, rfl, (Option.some.inj h).symm, List.mem_of_getElem? e, by rw [List.take_succ, e]; rfl⟩
theorem decT {p : Prop} [Decidable p] {A B : Prop} (h : p) (k : A) : if decide p = true then A else B := by rw [if_pos (decide_eq_true h)]; exact k
theorem decF {p : Prop} [Decidable p] {A B : Prop} (h : ¬ p) (k : B) : if decide p = true then A else B := by rw [if_neg (by simpa using h)]; exact k
theorem dec2 {p : Prop} [Decidable p] {A B : Prop} (h1 : p → A) (h2 : ¬ p → B) : if decide p = true then A else B := by
  by_cases h : p
  · exact decT h (h1 h)
  · exact decF h (h2 h)
theorem decN {p : Prop} [Decidable p] {A B : Prop} (h1 : ¬ p → A) (h2 : p → B) : if (!decide p) = true then A else B := by
  by_cases h : p
  · rw [if_neg (by simpa using h)]; exact h2 h
  · rw [if_pos (by simpa using h)]; exact h1 h
theorem boo2 {b : Bool} {A B : Prop} (h1 : b = true → A) (h2 : b = false → B) : if b = true then A else B := by
  cases b
  · rw [if_neg Bool.false_ne_true]; exact h2 rfl
  · rw [if_pos rfl]; exact h1 rfl
theorem booN {b : Bool} {A B : Prop} (h1 : b = false → A) (h2 : b = true → B) : if (!b) = true then A else B := by
  cases b with
  | false => show (if true = true then A else B); rw [if_pos rfl]; exact h1 rfl
  | true => show (if false = true then A else B); rw [if_neg Bool.false_ne_true]; exact h2 rfl
theorem filt_all {α : Type} (l : List α) : l.filter (fun _ => true) = l := by simp
/-- a comprehension as map and filter: f the element, p the test, of data that the turn knows -/
theorem wf_map {wi : TI} {g : TG} {vs : List Nat} {Φ : Nat → List D → Prop} (f : D → D) (p : D → Bool)
    (h : WI c wi ρ n fun n1 ds => ds.length ≤ 1000000 ∧ (∀ d ∈ ds, ∀ m, WG c (RW vs) g d (wipeR ρ vs) m fun ρ2 => WT c t ρ2 m fun m2 b => m2 = m ∧ b = p d ∧ (b = true → WE c te ρ2 m fun m3 y => m3 = m ∧ y = f d)) ∧ Φ n1 ((ds.filter p).map f)) : WF c (tLc wi g t te vs) ρ n Φ := by
  refine wf_lc ?_
  intro P L σ H R E q
  refine h P L σ H R E fun J ds n' H' s j it ⟨hz, hs, kk⟩ => q J ds n' H' s j it ?_
  refine ⟨fun k m acc => m = n' ∧ acc = ((ds.take k).filter p).map f, ⟨rfl, rfl⟩, ?_, ?_⟩
  · rintro k m acc d hd ⟨e1, e2⟩
    subst e1; subst e2
    have hk : k < ds.length := (List.getElem?_eq_some_iff.mp hd).1
    have ek : ds[k] = d := (List.getElem?_eq_some_iff.mp hd).2
    have tk : ds.take (k + 1) = ds.take k ++ [d] := by rw [List.take_succ, hd]; rfl
    intro P2 L2 σ2 H2 v2 Q2 E2 r2 q2
    refine hs d (List.mem_of_getElem? hd) m P2 L2 σ2 H2 v2 Q2 E2 r2 fun σ3 ρ3 E3 hw hT => q2 σ3 ρ3 E3 hw ?_
    refine hT.mono fun m2 b ⟨e1, e2, he⟩ => ?_
    subst e1
    cases b with
    | true =>
      rw [if_pos rfl]
      refine (he rfl).mono fun m3 y ⟨e3, e4⟩ => ?_
      subst e3; subst e4
      refine ⟨?_, rfl, ?_⟩
      · have h1 : (List.map f (List.filter p (List.take k ds))).length ≤ ds.length := by
          rw [List.length_map]
          exact Nat.le_trans (List.length_filter_le _ _) (by rw [List.length_take]; omega)
        exact Nat.lt_of_le_of_lt (Nat.le_trans h1 hz) (by decide)
      · rw [tk, List.filter_append, List.map_append]
        simp [← e2]
    | false =>
      rw [if_neg Bool.false_ne_true]
      refine ⟨rfl, ?_⟩
      rw [tk, List.filter_append, List.map_append]
      simp [← e2]
  · rintro m acc ⟨e1, e2⟩
    subst e1; subst e2
    rw [List.take_length]
    exact kk
end
end L3
/-! L3h: the rules with the written part K said (within comprehensions it must not hang on the block). -/
namespace L3
open PySem L2
section
variable {X : Cx} (K : PySem.W.Frag)
theorem x_eq (hu : X.A.units + 64 < cLine) (hK : X.K = K := by rfl) : OpR X (compareOp .Eq) (rEqD K) := hK ▸ op_eqD hu
theorem x_ne (hu : X.A.units + 64 < cLine) (hK : X.K = K := by rfl) : OpR X (compareOp .NotEq) (rNeD K) := hK ▸ op_neD hu
theorem x_in (hu : X.A.units + 65 < cLine) (hK : X.K = K := by rfl) : OpR X (compareOp .In) (rInS K false) := hK ▸ op_inSeq hu
theorem x_notIn (hu : X.A.units + 65 < cLine) (hK : X.K = K := by rfl) : OpR X (compareOp .NotIn) (rInS K true) := hK ▸ op_notInSeq hu
theorem x_add (hK : X.K = K := by rfl) : OpR X (binaryOp .Add) (rAddD K) := hK ▸ op_addD
theorem x_ix (hK : X.K = K := by rfl) : IxR X (rIx K) := hK ▸ ix_seq
theorem x_sl (hK : X.K = K := by rfl) : SlR X (rSlS3 K) := hK ▸ sl_seq
theorem x_len (hK : X.K = K := by rfl) : CallR X (.builtin "len") (rLenD K) := hK ▸ call_lenX
theorem x_list (hK : X.K = K := by rfl) : CallR X (.type "list") (rListD K) := hK ▸ call_listX
theorem x_tup (hK : X.K = K := by rfl) : CallR X (.type "tuple") (rTupD K) := hK ▸ call_tupX
theorem x_sum (hc : X.calm = true := by rfl) (hK : X.K = K := by rfl) : CallR X (.builtin "sum") (rSum K) := hK ▸ cr_sum hc
theorem x_max (hc : X.calm = true := by rfl) (hK : X.K = K := by rfl) : CallR X (.builtin "max") (rMax K) := hK ▸ cr_max hc
theorem x_min (hc : X.calm = true := by rfl) (hK : X.K = K := by rfl) : CallR X (.builtin "min") (rMin K) := hK ▸ cr_min hc
theorem x_any (hc : X.calm = true := by rfl) (hK : X.K = K := by rfl) : CallR X (.builtin "any") (rAny K) := hK ▸ cr_any hc
theorem x_all (hc : X.calm = true := by rfl) (hK : X.K = K := by rfl) : CallR X (.builtin "all") (rAll K) := hK ▸ cr_all hc
theorem x_sorted (hu : X.A.units + 64 < cLine) (hK : X.K = K := by rfl) : CallR X (.builtin "sorted") (rSortD K) := hK ▸ cr_sortD hu
theorem x_isi (hK : X.K = K := by rfl) : CallR X (.builtin "isinstance") (rIsi K) := hK ▸ call_isi
theorem x_seq {tg l : Expr} {tl : TE} (hl : PE X l tl) (hK : X.K = K := by rfl) : PI X tg l (iSeq K tl) := hK ▸ pi_seq hl
theorem x_enum {e : Expr} {ta : TA} {p pos tpos : Pos} {elts : List Expr} {kk : Nat} (hg : Gl X "enumerate") (hm : X.mg "enumerate" = none) (ha : PA X [e] ta) (hs : starEach [e] X.env = [(false, eval e X.env)] := by rfl) (hK : X.K = K := by rfl) :
    PI X (.Tuple elts kk tpos) (.Call (.Name "enumerate" p) [e] [] pos) (iEnum K ta) := hK ▸ pi_enum hg hm ha hs
theorem x_tgt {m : Nat} {target : Expr} {t : TGs} (h : PG X target (gTup X.K m t)) (hK : X.K = K := by rfl) : PG X target (gTup K m t) := hK ▸ h
end
end L3
/-! L3i: own dicts whose keys are tuples. -/
namespace L3
open PySem L2
section
variable {X : Cx} {pins : List (Addr × Obj)} {σ : L2.St} {H : Hp} {s : Shared}
mutual
theorem nk_is (I : Inv X pins σ H s) {O : List Addr} : ∀ (d : D) (v : V) (u : Value), Rp X.K (hid O H) v d → RelV v u → nkOk d = true → NestedIs s.heap (nk d) u
  | .non, _, _, h, r, _ => by cases h; cases r; exact .none
  | .int i, _, _, h, r, _ => by cases h; obtain ⟨t, rfl⟩ := r; exact .int i t
  | .str x, _, _, h, r, _ => by cases h; obtain ⟨t, rfl⟩ := r; exact .text x t
  | .tup ds, _, _, h, r, k => by
    cases h with
    | tup hs ha =>
      cases r
      obtain ⟨its, rv, ⟨o, ho, hc, n, hd⟩, _⟩ := I.tuple (same_t same_hid hs)
      exact .tup ho hc hd (by rw [List.toList_toArray]; exact nk_all I ds _ its ha rv k)
  | .bl _, _, _, _, _, k => nomatch k
  | .lst _, _, _, _, _, k => nomatch k
  | .obj _ _, _, _, _, _, k => nomatch k
  | .adr _, _, _, _, _, k => nomatch k
  | .ty _, _, _, _, _, k => nomatch k
theorem nk_all (I : Inv X pins σ H s) {O : List Addr} : ∀ (ds : List D) (vs : List V) (us : List Value), RpAll X.K (hid O H) vs ds → Vals vs us → nkOkAll ds = true → NestedAll s.heap (nkAll ds) us
  | [], _, _, h, r, _ => by cases h; cases r; exact .nil
  | d :: ds, _, _, h, r, k => by
    have h' : (nkOk d && nkOkAll ds) = true := k
    rw [Bool.and_eq_true] at h'
    cases h with
    | cons h1 h2 =>
      cases r with
      | cons r1 r2 => exact .cons (nk_is I d _ _ h1 r1 h'.1) (nk_all I ds _ _ h2 r2 h'.2)
end
theorem key_is (I : Inv X pins σ H s) {O : List Addr} {v : V} {d : D} {u : Value} (h : Rp X.K (hid O H) v d) (r : RelV v u) (k : keyD d = true) : ∃ a, v = .ref a ∧ u = .ref a ∧ (nestedKind X.prog X.w).is s.heap (nk d) a := by
  cases h with
  | @tup a xs ds hs ha =>
    have k' : (nkOkAll ds && decide ((nk (.tup ds)).depth ≤ 8)) = true := k
    rw [Bool.and_eq_true] at k'
    have q := nk_is I _ _ _ (.tup hs ha) r k'.1
    cases r
    exact ⟨a, rfl, rfl, q, of_decide_eq_true k'.2⟩
  | _ => cases k
end
def lookD (kvs : List (D × D)) (k : D) : Option D := (kvs.find? fun kv => decide (nk kv.1 = nk k)).map (·.2)
def putD (kvs : List (D × D)) (k v : D) : List (D × D) := if (lookD kvs k).isSome then kvs.map fun kv => if nk kv.1 = nk k then (kv.1, v) else kv else kvs ++ [(k, v)]
section
variable {K : PySem.W.Frag} {H : Hp}
theorem ent_look {kd : D} : ∀ {kvs : List (D × D)} {xs : List (NestedKey × Addr × Value)}, Paired (EntD K H) kvs xs →
    (lookD kvs kd = none ∧ atKey xs (nk kd) = none) ∨ ∃ v a u w, lookD kvs kd = some v ∧ atKey xs (nk kd) = some (a, u) ∧ RelV w u ∧ Rp K H w v
  | _, _, .nil => .inl ⟨rfl, rfl⟩
  | kv :: kvs, x :: xs, .cons h t => by
    obtain ⟨h1, h2, h3, w, h4, h5⟩ := h
    by_cases e : nk kv.1 = nk kd
    · right
      refine ⟨kv.2, x.2.1, x.2.2, w, ?_, ?_, h4, h5⟩
      · unfold lookD; rw [List.find?_cons_of_pos (by simpa using e)]; rfl
      · unfold atKey; rw [List.find?_cons_of_pos (by simpa [h2] using e)]; rfl
    · have r := ent_look (kd := kd) t
      have e1 : lookD (kv :: kvs) kd = lookD kvs kd := by unfold lookD; rw [List.find?_cons_of_neg (by simpa using e)]
      have e2 : atKey (x :: xs) (nk kd) = atKey xs (nk kd) := by unfold atKey; rw [List.find?_cons_of_neg (by simpa [h2] using e)]
      rw [e1, e2]; exact r
theorem ent_len : ∀ {kvs : List (D × D)} {xs : List (NestedKey × Addr × Value)}, Paired (EntD K H) kvs xs → kvs.length = xs.length
  | _, _, .nil => rfl
  | _, _, .cons _ t => by rw [List.length_cons, List.length_cons, ent_len t]
theorem ent_map {kd vd : D} {u : Value} {w : V} (r : RelV w u) (rw' : Rp K H w vd) : ∀ {kvs : List (D × D)} {xs : List (NestedKey × Addr × Value)}, Paired (EntD K H) kvs xs →
    Paired (EntD K H) (kvs.map fun kv => if nk kv.1 = nk kd then (kv.1, vd) else kv) (xs.map (putAt (nk kd) u))
  | _, _, .nil => .nil
  | kv :: kvs, x :: xs, .cons h t => by
    refine .cons ?_ (ent_map r rw' t)
    obtain ⟨h1, h2, h3, h4⟩ := h
    unfold putAt
    show EntD K H (if nk kv.1 = nk kd then (kv.1, vd) else kv) _
    by_cases e : nk kv.1 = nk kd
    · rw [if_pos e, if_pos (by rw [h2]; exact e)]
      exact ⟨h1, h2, h3, w, r, rw'⟩
    · rw [if_neg e, if_neg (by rw [h2]; exact e)]
      exact ⟨h1, h2, h3, h4⟩
theorem paired_app {α β : Type} {R : α → β → Prop} {a : α} {b : β} (h : R a b) : ∀ {xs : List α} {ys : List β}, Paired R xs ys → Paired R (xs ++ [a]) (ys ++ [b])
  | _, _, .nil => .cons h .nil
  | _, _, .cons q t => .cons q (paired_app h t)
theorem ent_put {kd vd : D} {a : Addr} {u : Value} {w : V} (hk : keyD kd = true) (ra : Rp K H (.ref a) kd) (r : RelV w u) (rw' : Rp K H w vd) {kvs : List (D × D)} {xs : List (NestedKey × Addr × Value)} (h : Paired (EntD K H) kvs xs) :
    Paired (EntD K H) (putD kvs kd vd) (storedH xs (nk kd) a u) := by
  unfold putD storedH
  rcases ent_look (kd := kd) h with ⟨e1, e2⟩ | ⟨v, a', u', w', e1, e2, _⟩
  · rw [e1, e2, if_neg (by simp), if_neg (by simp)]
    exact paired_app ⟨hk, rfl, ra, w, r, rw'⟩ h
  · rw [e1, e2]
    exact ent_map r rw' h
theorem putD_len (kvs : List (D × D)) (k v : D) : (putD kvs k v).length ≤ kvs.length + 1 := by
  unfold putD
  split
  · rw [List.length_map]; omega
  · rw [List.length_append]; exact Nat.le_refl _
end
section
variable {X : Cx} {pins : List (Addr × Obj)} {σ : L2.St} {H : Hp} {s : Shared}
theorem nd_of (I : Inv X pins σ H s) {O : List Addr} {l : Addr} {kvs : List (D × D)} {xs : List (NestedKey × Addr × Value)} (h1 : H l = some (.ext (DictBare X.prog X.w xs l))) (h3 : Paired (EntD X.K (hid O H)) kvs xs) : s.heap.DictOfH (nestedKind X.prog X.w) l xs := by
  obtain ⟨⟨o, es, ep, e1, e2, e3, e4, e5⟩, _⟩ := I.hok l _ h1
  refine ⟨o, es, ep, e1, e2, e3, e4, fun x hx => ?_, e5⟩
  have key : ∀ {kvs : List (D × D)} {xs : List (NestedKey × Addr × Value)}, Paired (EntD X.K (hid O H)) kvs xs → x ∈ xs → (nestedKind X.prog X.w).is s.heap x.1 x.2.1 := by
    intro kvs xs h
    induction h with
    | nil => intro q; cases q
    | cons h t ih =>
      intro q
      rcases List.mem_cons.mp q with q | q
      · subst q
        obtain ⟨g1, g2, g3, _⟩ := h
        obtain ⟨a, ea, eb, is⟩ := key_is I g3 rfl g1
        cases eb
        rw [g2]; exact is
      · exact ih q
  exact key h3 hx
theorem bare_ok {xs : List (NestedKey × Addr × Value)} {l : Addr} {h' : Heap} {pr : Program} {wd : World} {Hq : Hp} (b : DictBare pr wd xs l h') : ObjOk pr wd Hq h' l (.ext (DictBare pr wd xs l)) := by
  obtain ⟨o, es, ep, e1, r⟩ := id b
  exact ⟨b, ⟨o, e1⟩, fun h1 h2 ⟨o, es, ep, q1, q2⟩ k => ⟨o, es, ep, k o q1, q2⟩⟩
end
/-! ### the rules -/
def tDNewN (pr : Program) (wd : World) : TE := fun _ H Q => ∀ p, H p = none → (p == sysModules) = false → Q (.ref p) (upd H p (.ext (DictBare pr wd [] p)))
def rIxN (pr : Program) (wd : World) (K : PySem.W.Frag) : R2 := fun x y H Q => ∃ (O : List Addr) (l : Addr) (kvs : List (D × D)) (kd v : D), x = .ref l ∧ NDict pr wd K O H l kvs ∧ Rp K (hid O H) y kd ∧ keyD kd = true ∧ lookD kvs kd = some v ∧ ∀ u, Rp K (hid O H) u v → Q u H
def tGetN (pr : Program) (wd : World) (K : PySem.W.Frag) (td ty tx : TE) : TE := fun σ H Q => td σ H fun x H1 => ∃ l, x = .ref l ∧ (∃ O kvs, NDict pr wd K O H1 l kvs) ∧ ty σ H1 fun y H2 => tx σ H2 fun z H3 => ∃ (O : List Addr) (kvs : List (D × D)) (kd : D), NDict pr wd K O H3 l kvs ∧ Rp K (hid O H3) y kd ∧ keyD kd = true ∧
  (∀ v u, lookD kvs kd = some v → Rp K (hid O H3) u v → Q u H3) ∧ (lookD kvs kd = none → Q z H3)
def rSetN (pr : Program) (wd : World) (K : PySem.W.Frag) : TSet := fun o i v H Q => ∃ (O : List Addr) (l : Addr) (kvs : List (D × D)) (kd vd : D), o = .ref l ∧ l ∈ O ∧ NDict pr wd K O H l kvs ∧ Rp K (hid O H) i kd ∧ keyD kd = true ∧ Rp K (hid O H) v vd ∧ kvs.length < sizeLine ∧
  ∀ φ, NDict pr wd K O (upd H l (.ext φ)) l (putD kvs kd vd) → Q (upd H l (.ext φ))
def rSortN (pr : Program) (wd : World) (K : PySem.W.Frag) : List V → Hp → VK → Prop := fun vs H Q => ∃ (O : List Addr) (l : Addr) (kvs : List (D × D)), vs = [.ref l] ∧ NDict pr wd K O H l kvs ∧ plainAll (kvs.map (·.1)) = true ∧ PySem.W.AllAlike ((kvs.map (·.1)).map dpy) ∧ PySem.W.Sortable ((kvs.map (·.1)).map dpy) ∧ kvs.length ≤ sizeLine ∧
  (∀ d ∈ kvs.map (·.1), (dpy d).depth ≤ 50) ∧ ∀ p ys, H p = none → RpAll K (hid O H) ys (sortD (kvs.map (·.1))) → Q (.ref p) (upd H p (.lst ys))
section
variable {X : Cx} (pr : Program) (wd : World) (K : PySem.W.Frag)
theorem sys_lt {X : Cx} {pins : List (Addr × Obj)} {σ : L2.St} {H : Hp} {s : Shared} (I : Inv X pins σ H s) : (s.heap.objs.size == sysModules) = false := by
  have := I.big
  simp only [beq_eq_false_iff_ne, ne_eq]
  intro e
  exact absurd this (by rw [e]; exact Nat.lt_irrefl _)
theorem pe_dnewN {pos : Pos} (hp : X.prog = pr := by rfl) (hw : X.w = wd := by rfl) : PE X (.Dict [] [] pos) (tDNewN pr wd) := by
  subst hp; subst hw
  refine ⟨fun pins s σ H Q I h => ?_⟩
  refine wpAny_Dict_empty ⟨.ref s.heap.objs.size, _, I.laid (a := s.heap.objs.size) (o := .ext (DictBare X.prog X.w [] s.heap.objs.size)) (t' := s.toks) (fun _ _ q => Heap.get?_push_of_some _ q) (Nat.le_refl _) (bare_ok ?_), rfl, h _ (I.hok.fresh (Nat.le_refl _)) (sys_lt I)⟩
  obtain ⟨o, es, ep, e1, e2, e3, e4, _, e5⟩ := Heap.DictOfH.new (knd := nestedKind X.prog X.w) s.heap
  exact ⟨o, es, ep, e1, e2, e3, e4, e5⟩
theorem x_ixN (hu : X.A.units + 64 < cLine) (hp : X.prog = pr := by rfl) (hw : X.w = wd := by rfl) (hK : X.K = K := by rfl) : IxR X (rIxN pr wd K) := by
  subst hp; subst hw; subst hK
  intro value slice pins s σ H x y v u Q I rx ry h hs
  obtain ⟨O, l, kvs, kd, vd, rfl, ⟨xs, n1, n2, n3⟩, rk, hk, hl, q⟩ := h
  cases rx
  obtain ⟨a, ea, eb, is⟩ := key_is I rk ry hk
  subst eb
  have dd := nd_of I n1 n3
  rcases ent_look (kd := kd) n3 with ⟨e1, _⟩ | ⟨v', a', u', w, e1, e2, e3, e4⟩
  · rw [e1] at hl; cases hl
  · rw [e1] at hl
    cases hl
    refine PyProof.Rows.tail_any dd.typeIs PySem.F.slot_dict_getitem.lookup ?_ hs
    exact wpAny_getItem_heap (by show X.A.in1.units + 8 < cLine; have : X.A.in1.units = X.A.units + 1 := rfl; omega) is dd e2 ⟨w, H, I.tok _, e3, q w e4⟩
theorem x_setN (hu : X.A.units + 64 < cLine) (hp : X.prog = pr := by rfl) (hw : X.w = wd := by rfl) (hK : X.K = K := by rfl) : PSet X (rSetN pr wd K) := by
  subst hp; subst hw; subst hK
  intro pins s σ H o i v ov iv u Q I ro ri rv h
  obtain ⟨O, l, kvs, kd, vd, rfl, lO, ⟨xs, n1, n2, n3⟩, rk, hk, rvd, hz, q⟩ := h
  cases ro
  obtain ⟨a, ea, eb, is⟩ := key_is I rk ri hk
  subst eb
  have dd := nd_of I n1 n3
  refine wpAny_setItem_heap (hsz := by rw [← ent_len n3]; exact Nat.le_of_lt hz) (by show X.A.in1.units + 8 < cLine; have : X.A.in1.units = X.A.units + 1 := rfl; omega) is dd fun h' dd' hs => ?_
  obtain ⟨o, es, ep, e1, e2, e3, e4, _, e5⟩ := dd'
  have bb : DictBare X.prog X.w (storedH xs (nk kd) a u) l h' := ⟨o, es, ep, e1, e2, e3, e4, e5⟩
  refine ⟨_, d_write I (by rw [n1]; exact True.intro) hs ⟨o, e1⟩ (bare_ok bb), q _ ?_⟩
  subst ea
  refine ⟨_, upd_same, n2, ?_⟩
  rw [hid_upd_in lO]
  exact ent_put hk rk rv rvd n3
theorem pe_getN {o e f : Expr} {apos cpos : Pos} {td ty tx : TE} (hu : X.A.units + 64 < cLine) (ho : PE X o td) (he : PE X e ty) (hf : PE X f tx) (m : M2 X o "get" apos e f cpos) (hp : X.prog = pr := by rfl) (hw : X.w = wd := by rfl) (hK : X.K = K := by rfl) :
    PE X (.Call (.Attribute o "get" apos) [e, f] [] cpos) (tGetN pr wd K td ty tx) := by
  subst hp; subst hw; subst hK
  refine ⟨fun pins s σ H Q I h => ?_⟩
  refine wpAny_Call_method m.base m.few m.line PySem.F.plainAttrs_dict PySem.F.slot_dict_get PySem.F.type_dict_get (thn (ho.run pins s σ H _ I h) fun u s1 ⟨x, H1, I1, rx, l, ex, ⟨O, kvs, xs, n1, n2, n3⟩, q1⟩ => ?_)
  subst ex
  obtain rfl : u = Value.ref l := rx
  have dd := nd_of I1 n1 n3
  refine ⟨dd.typeIs, fun b eb => ?_, ?_⟩
  · cases eb
    obtain ⟨o, es, ep, e1, e2, _⟩ := dd
    exact ⟨o, e1, e2.2.1⟩
  rw [m.trees]
  refine Calls.callWith_builtin rfl (Calls.evalArgs_plain (Calls.spliced_cons (thn (he.run pins s1 σ H1 _ I1 q1) fun iv s2 ⟨y, H2, I2, ry, q2⟩ =>
    Calls.spliced_cons (thn (hf.run pins s2 σ H2 _ I2 q2) fun fv s3 ⟨z, H3, I3, rz, O3, kvs3, kd, ⟨xs3, m1, m2, m3⟩, rk, hk, qs, qn⟩ => Calls.spliced_nil ?_))))
  obtain ⟨a, ea, eb, is⟩ := key_is I3 rk ry hk
  subst eb
  have dd3 := nd_of I3 m1 m3
  refine call_meetsIn PySem.F.slot_dict_get dd3.typeIs PySem.F.entry_dict_get (PySem.F.args_dict_get_3 _ _ _) (meetsH_dict_get_default (nestedKind X.prog X.w) l a m2 fv) ⟨by show X.A.in1.units + 8 < cLine; have : X.A.in1.units = X.A.units + 1 := rfl; omega, nk kd, xs3, is, dd3, ?_⟩
  rcases ent_look (kd := kd) m3 with ⟨e1, e2⟩ | ⟨v', a', u', w, e1, e2, e3, e4⟩
  · rw [e2]
    exact ⟨z, H3, I3.tok _, rz, qn e1⟩
  · rw [e2]
    exact ⟨w, H3, I3.tok _, e3, qs v' w e1 e4⟩
end
end L3
/-! L3j: sorted(d); the rules of own dicts over data; count. -/
namespace L3
open PySem L2 PySem.W PyProof.Rows PySem.Calls PyProof.V
section
variable {prog : Program} {w : World} {A : Around} {E : Value → Shared → Prop} {s : Shared}
theorem sorted_dictH {β : Type} {R : Value → β → Prop} {enc : β → PyData} {bs : List β} {d : Addr} {es : Array DictEntry} {ep : Nat} {Q : Value → Shared → Prop} (hh : A.handled = none) (lo : (d == sysModules) = false) (hD : s.heap.DictRaw d es ep)
    (e : EachIs R (es.toList.map (·.key)) bs) (er : EachIs (fun v b => ∃ as, Reads s.heap v (enc b) as) (es.toList.map (·.key)) bs) (hal : AllAlike (bs.map enc)) (hk : Sortable (bs.map enc)) (hL : bs.length ≤ sizeLine)
    (hu : ∀ b, b ∈ bs → A.units + 2 + (enc b).depth < cLine)
    (h : ∀ (h1 h2 : Heap) (tk : Nat) (out : List Value) (c : Nat), (∀ b o, s.heap.get? b = some o → h1.get? b = some o) → (∀ b o, h1.get? b = some o → h2.get? b = some o) → h2.get? h1.objs.size = some { cls := .type "list", data := .seq out.toArray c } → out.length = bs.length → EachIs R out (bs.mergeSort (dataLe false enc)) → Q (.ref h1.objs.size) { s with heap := h2, toks := tk }) :
    wpAny (model prog w) A (call (.builtin "sorted") [.ref d]) Q E s := by
  have hn : es.size ≤ sizeLine := by
    have q := e.length
    rw [List.length_map, Array.length_toList] at q
    omega
  refine call_function_entry kind_sorted plain_sorted entry_sorted (args_sorted1 _) ?_
  unfold Builtin.«sorted»
  refine wpAny_bind (m := checkCount "sorted" 1 1 _) (wpAny_pure ?_)
  refine wpAny_bind (kdu_collect (A := A.in1) (KdlSrc.rawDict lo) hh hD hn fun h' tk acc hkp hacc => ?_)
  have hl : acc.toList = es.toList.map (·.key) := by
    apply List.ext_getElem?
    intro j
    by_cases hj : j < acc.size
    · obtain ⟨hi, hv⟩ := hacc.2 j acc[j] (by simp [hj])
      rw [Array.getElem?_toList, Array.getElem?_eq_getElem hj, List.getElem?_map, Array.getElem?_toList, Array.getElem?_eq_getElem hi, hv]; rfl
    · have hs : acc.size = es.size := hacc.1
      rw [Array.getElem?_toList, Array.getElem?_eq_none (by omega), List.getElem?_map, Array.getElem?_toList, Array.getElem?_eq_none (by omega)]; rfl
  have hz : acc.toList.length ≤ sizeLine := by rw [Array.length_toList, hacc.1]; exact hn
  refine wpAny_bind (wpAny_newList ?_ hz)
  rw [hl] at hz ⊢
  generalize hvs : es.toList.map (·.key) = vs at e er hz ⊢
  have ho : (h'.push { cls := .type "list", data := .seq vs.toArray }).get? h'.objs.size = some (seqObj "list" vs.toArray 0) := Heap.get?_push_size _ rfl
  have old : ∀ b o, s.heap.get? b = some o → (sortingHeap (h'.push { cls := .type "list", data := .seq vs.toArray }) h'.objs.size vs).get? b = some o := fun b o q =>
    sortingHeap_old (Nat.ne_of_lt (Heap.lt_size (hkp b o q))) (Heap.get?_push_of_some _ (hkp b o q))
  have er' : EachIs (fun v b => ∃ as, Reads (sortingHeap (h'.push { cls := .type "list", data := .seq vs.toArray }) h'.objs.size vs) v (enc b) as) vs bs := er.mono fun _ _ ⟨as, r⟩ => ⟨as, PyProof.Rows.Reads.keeps old r⟩
  refine wpAny_bind (wpAny_holding ?_)
  refine wpAny_call_entry slot_list_sort ⟨_, ho, rfl⟩ entry_list_sort (list_sort_vals (κ := dataKind (sortingHeap (h'.push { cls := .type "list", data := .seq vs.toArray }) h'.objs.size vs) (bs.map enc)) ho (SortsAt.data (s := { s with heap := sortingHeap (h'.push { cls := .type "list", data := .seq vs.toArray }) h'.objs.size vs, toks := tk }) (each_map (R := fun v d => ∃ as, Reads (sortingHeap (h'.push { cls := .type "list", data := .seq vs.toArray }) h'.objs.size vs) v d as) enc er') hal hk (bound_map hu)) (by rw [e.length]; exact hL) ⟨.none, rfl, ?_⟩) (args_list_sort _)
  obtain ⟨c, hc⟩ := sortedHeap_at (out := (sortVals (dataKind (sortingHeap (h'.push { cls := .type "list", data := .seq vs.toArray }) h'.objs.size vs) (bs.map enc)) false vs vs).toArray) ho
  refine wpAny_pure ⟨_, rfl, h h' _ tk _ c hkp ?_ hc (by rw [sortVals_length false rfl]; exact e.length) (sortVals_data false e er' hal)⟩
  intro b o q
  rw [sortedHeap_old (Nat.ne_of_lt (Heap.lt_size q)) (Nat.lt_of_lt_of_le (Heap.lt_size q) (by rw [Heap.size_push]; exact Nat.le_succ _))]
  exact Heap.get?_push_of_some _ q
end
section
variable {X : Cx} (pr : Program) (wd : World) (K : PySem.W.Frag)
theorem ent_keys {K : PySem.W.Frag} {H : Hp} : ∀ {kvs : List (D × D)} {xs : List (NestedKey × Addr × Value)}, Paired (EntD K H) kvs xs → EachIs (fun (u : Value) (d : D) => ∃ v, RelV v u ∧ Rp K H v d) (xs.map fun x => Value.ref x.2.1) (kvs.map (·.1))
  | _, _, .nil => .nil
  | _, _, .cons (a := kv) (b := x) h t => .cons ⟨V.ref x.2.1, rfl, h.2.2.1⟩ (ent_keys t)
theorem x_sortN (hu : X.A.units + 64 < cLine) (hcalm : X.calm = true := by rfl) (hp : X.prog = pr := by rfl) (hw : X.w = wd := by rfl) (hK : X.K = K := by rfl) : CallR X (.builtin "sorted") (rSortN pr wd K) := by
  subst hp; subst hw; subst hK
  intro pins s σ H vs us Q I r h
  obtain ⟨O, l, kvs, rfl, ⟨xs, n1, n2, n3⟩, hpl, hal, hk, hL, hdep, q⟩ := h
  rw [Vals.ref1 r]
  obtain ⟨⟨o, es, ep, e1, e2, e3, e4, e5⟩, _⟩ := I.hok l _ n1
  have el := ent_keys n3
  have ek : es.toList.map (·.key) = xs.map fun x => Value.ref x.2.1 := by rw [e4, List.map_map]; rfl
  have er : EachIs (fun (u : Value) (d : D) => ∃ as, Reads s.heap u (dpy d) as) (xs.map fun x => Value.ref x.2.1) (kvs.map (·.1)) := by
    refine (each_mem el).mono ?_
    rintro u d ⟨⟨v, r1, r2⟩, hd⟩
    exact Dp.reads I (dpy d) v u (Dp.mono same_hid (r2.dp (plainAll_mem hpl hd))) r1
  refine sorted_dictH (s := s) (I.ok.hd hcalm) n2 ⟨o, e1, e2, e3⟩ (by rw [ek]; exact el) (by rw [ek]; exact er) hal hk (by rw [List.length_map]; exact hL) (fun d hd => by have := hdep d hd; omega) fun h1 h2 tk out c k1 k2 hc ho eo => ?_
  obtain ⟨ys, g1, g2⟩ := rp_each eo
  have hlen : ys.length ≤ sizeLine := by rw [g1.length, ho, List.length_map]; exact hL
  have I1 : Inv X pins σ H { s with heap := h1 } := I.kept (t' := s.toks) k1
  exact ⟨.ref _, upd H h1.objs.size (.lst ys), I1.laid (t' := tk) k2 (Nat.le_refl _) ⟨hlen, out, c, g1, hc⟩, rfl, q _ ys (I1.hok.fresh (Nat.le_refl _)) g2⟩
/-- list.count of data -/
def rCountD (K : PySem.W.Frag) : V → List V → Hp → VK → Prop := fun x vs H Q => ∃ (O : List Addr) (y : V) (ds : List D) (d : D), vs = [y] ∧ Rp K (hid O H) x (.lst ds) ∧ Rp K (hid O H) y d ∧ fit d = true ∧ fit (.lst ds) = true ∧ Q (.int ((ds.countP fun z => eqD z d : Nat) : Int)) H
theorem countP_map {α β : Type} (f : α → β) (p : β → Bool) (l : List α) : (l.map f).countP p = l.countP (p ∘ f) := by rw [List.countP_map]
theorem x_count (hu : X.A.units + 65 < cLine) (hK : X.K = K := by rfl) : MtR X "list.count" (rCountD K) := by
  subst hK
  intro pins s σ H x vs v us Q I rx rv h
  obtain ⟨O, y, ds, d, rfl, rl, ry, hd, hds, q⟩ := h
  cases rl with
  | @lst a xs _ hs ha =>
    cases rx
    cases rv with
    | cons r1 r2 =>
      cases r2
      obtain ⟨its, n, rit, e, hz⟩ := inv_rdL I (same_rd same_hid hs)
      obtain ⟨bs, rd⟩ := Dp.reads I (dpy d) y _ (Dp.mono same_hid (ry.dp (fit_p hd))) r1
      obtain ⟨as, ra⟩ := Dp.readsAll I (dpyAll ds) xs its (DpAll.mono same_hid (ha.dp (fit_p hds))) rit
      have hxs : PyData.canLayAll0 (dpyAll ds) = true := SeqAt.canLay_of_shaped (fit_s hds)
      have hroom : X.A.units + 1 + min (PyData.depthAll (dpyAll ds)) (dpy d).depth < cLine := room_in_shaped (fit_s hd) hu
      have hmap : its.map (SeqAt.readOf s.heap) = dpyAll ds := SeqAt.readsAll_map (dpyAll ds) its as hxs ra
      refine call_meets PySem.F.slot_list_count ⟨_, e, rfl⟩ PySem.F.entry_list_count (PySem.F.args_list_count_2 _ _) (SeqAt.list_countAt a its.toArray n none #[] _ (fun u => PyData.eqv (SeqAt.readOf s.heap u) (dpy d))) ⟨e, SeqAt.items_eqAt (vs := its.toArray) (show ReadsAll s.heap its.toArray.toList (dpyAll ds) as from ra) rd hxs (SeqAt.canLay_of_shaped (fit_s hd)) hroom, ?_⟩
      refine ⟨.int _, H, I.tok _, ⟨_, rfl⟩, ?_⟩
      have ec : its.toArray.toList.countP (fun u => PyData.eqv (SeqAt.readOf s.heap u) (dpy d)) = ds.countP fun z => eqD z d := by
        rw [List.toList_toArray]
        have h1 : its.countP (fun u => PyData.eqv (SeqAt.readOf s.heap u) (dpy d)) = (its.map (SeqAt.readOf s.heap)).countP fun z => PyData.eqv z (dpy d) := by rw [List.countP_map]; rfl
        rw [h1, hmap, dpyAll_map, List.countP_map]; rfl
      rw [ec]
      exact q
end
end L3
/-! L3k: own dicts over data. -/
namespace L3
open PySem L2
section
variable {X : Cx} (K : PySem.W.Frag)
theorem x_bm {o e : Expr} {es : List Expr} {to : TE} {t : TA} {name : Str} {apos cpos : Pos} {T id : String} {r : V → List V → Hp → VK → Prop} (h : PE X (.Call (.Attribute o name apos) (e :: es) [] cpos) (tBM X.K T r to t)) (hK : X.K = K := by rfl) : PE X (.Call (.Attribute o name apos) (e :: es) [] cpos) (tBM K T r to t) := hK ▸ h
end
section
variable {c : Ctx} {ρ : List SD} {n : Nat} {ta tb te : TE} {t u : TT} {as : TA} {Φ : Nat → D → Prop} {Ψ : Out} {ts us : TS}
theorem we_count {te2 : TE} (h : WE c te ρ n fun n1 d => ∃ ds, d = .lst ds ∧ WE c te2 ρ n1 fun n2 e => fit e = true ∧ fit (.lst ds) = true ∧ Φ n2 (.int ((ds.countP fun z => eqD z e : Nat) : Int))) : WE c (tBM c.K "list" (rCountD c.K) te (tCons te2 tNil)) ρ n Φ := fun P L σ H Q E q => by
  refine h P L σ H _ E fun x d n1 H1 s1 j1 r1 ⟨ds, e, h1⟩ => ?_
  subst e
  have E1 := E.step s1 j1
  cases r1 with
  | @lst a xs _ hs ha =>
    refine ⟨.inl ⟨rfl, xs, .inl (same_rd same_hid hs)⟩, ?_⟩
    refine h1 P L σ H1 _ E1 fun y d2 n2 H2 s2 j2 r2 ⟨f1, f2, k⟩ => ?_
    exact ⟨L ++ c.O, y, ds, d2, rfl, (Rp.lst hs ha).mono (E1.sameLO s2), r2, f1, f2, q _ _ n2 H2 (s1.trans s2) j2 (.int _) k⟩
theorem Env.dic_get {P : Hp} {L : List Addr} {n : Nat} {H : Hp} {σ : List (Option V)} {i : Nat} {kvs : List (D × D)} (E : Env c P L n H σ ρ) (h : ρ[i]? = some (.dic kvs)) : ∃ l, σ[i]? = some (some (.ref l)) ∧ l ∈ L ∧ NDict c.pr c.wd c.K (L ++ c.O) H l kvs := by
  obtain ⟨Ls, sl, sb⟩ := E.slots
  obtain ⟨l, h1, h2, h3⟩ := sl.getD h
  exact ⟨l, h1, sb.subset h2, h3⟩
theorem we_dix {i : Nat} {kvs : List (D × D)} (h0 : ρ[i]? = some (.dic kvs)) (h : WE c te ρ n fun n1 kd => keyD kd = true ∧ ∃ v, lookD kvs kd = some v ∧ Φ n1 v) : WE c (tOp (rIxN c.pr c.wd c.K) (tVar i) te) ρ n Φ := fun P L σ H Q E q => by
  obtain ⟨l, h1, hL, h2⟩ := E.dic_get h0
  refine ⟨.ref l, h1, ?_⟩
  refine h P L σ H _ E fun y kd n1 H1 s1 j1 r1 ⟨hk, v, hv, k⟩ => ?_
  have E1 := E.step s1 j1
  obtain ⟨l', g1, _, g2⟩ := E1.dic_get h0
  rw [h1] at g1
  cases g1
  exact ⟨L ++ c.O, l, kvs, kd, v, rfl, g2, r1, hk, hv, fun u r => q u v n1 H1 s1 j1 r k⟩
theorem we_dget {i : Nat} {kvs : List (D × D)} {tx : TE} (h0 : ρ[i]? = some (.dic kvs)) (h : WE c te ρ n fun n1 kd => WE c tx ρ n1 fun n2 xd => keyD kd = true ∧ Φ n2 ((lookD kvs kd).getD xd)) : WE c (tGetN c.pr c.wd c.K (tVar i) te tx) ρ n Φ := fun P L σ H Q E q => by
  obtain ⟨l, h1, hL, h2⟩ := E.dic_get h0
  refine ⟨.ref l, h1, l, rfl, ⟨_, _, h2⟩, ?_⟩
  refine h P L σ H _ E fun y kd n1 H1 s1 j1 r1 h3 => ?_
  have E1 := E.step s1 j1
  refine h3 P L σ H1 _ E1 fun z xd n2 H2 s2 j2 r2 ⟨hk, k⟩ => ?_
  have E2 := E1.step s2 j2
  obtain ⟨l', g1, _, g2⟩ := E2.dic_get h0
  rw [h1] at g1
  cases g1
  refine ⟨L ++ c.O, kvs, kd, g2, r1.mono (E1.sameLO s2), hk, fun v u hv ru => ?_, fun hn => ?_⟩
  · rw [hv] at k
    exact q u v n2 H2 (s1.trans s2) j2 ru k
  · rw [hn] at k
    exact q z xd n2 H2 (s1.trans s2) j2 r2 k
theorem Slots.dic_at {pr : Program} {wd : World} {K : PySem.W.Frag} {O : List Addr} {H : Hp} {kvs lvs : List (D × D)} : ∀ {σ : List (Option V)} {ρ : List SD} {L : List Addr} {i : Nat}, Slots pr wd K O H σ ρ L → L.Nodup → ρ[i]? = some (.dic kvs) → ∃ l, σ[i]? = some (some (.ref l)) ∧ l ∈ L ∧ NDict pr wd K O H l kvs ∧
    ∀ (o : HO), NDict pr wd K O (upd H l o) l lvs → hid O (upd H l o) = hid O H → Slots pr wd K O (upd H l o) σ (ρ.set i (.dic lvs)) L
  | _, _, _, _, .nil, _, e => by simp at e
  | _, _, _, 0, .un _, _, e => by simp at e
  | _, _, _, i + 1, .un s, nd, e => by
    obtain ⟨l, h1, h2, h3, h5⟩ := Slots.dic_at (i := i) s nd (by simpa using e)
    exact ⟨l, by simpa using h1, h2, h3, fun ys a b => .un (h5 ys a b)⟩
  | _, _, _, 0, .val _ _, _, e => by simp at e
  | _, _, _, i + 1, .val r s, nd, e => by
    obtain ⟨l, h1, h2, h3, h5⟩ := Slots.dic_at (i := i) s nd (by simpa using e)
    exact ⟨l, by simpa using h1, h2, h3, fun ys a b => .val (by rw [b]; exact r) (h5 ys a b)⟩
  | _, _, _, 0, .own _ _ _, _, e => by simp at e
  | _, _, _, i + 1, .own h r s, nd, e => by
    obtain ⟨l, h1, h2, h3, h5⟩ := Slots.dic_at (i := i) s (List.nodup_cons.mp nd).2 (by simpa using e)
    exact ⟨l, by simpa using h1, List.mem_cons_of_mem _ h2, h3, fun ys a b => .own ((upd_ne fun e => (List.nodup_cons.mp nd).1 (by rw [e]; exact h2)).trans h) (by rw [b]; exact r) (h5 ys a b)⟩
  | _, _, _, 0, .dic h s, nd, e => by
    simp at e
    subst e
    exact ⟨_, rfl, List.mem_cons_self, h, fun ys a b => .dic a (s.move (fun l hl => upd_ne fun e => (List.nodup_cons.mp nd).1 (by rw [← e]; exact hl)) (by rw [b]; exact Same.refl _))⟩
  | _, _, _, i + 1, .dic h s, nd, e => by
    obtain ⟨l, h1, h2, h3, h5⟩ := Slots.dic_at (i := i) s (List.nodup_cons.mp nd).2 (by simpa using e)
    exact ⟨l, by simpa using h1, List.mem_cons_of_mem _ h2, h3, fun ys a b => .dic (h.move (upd_ne fun e => (List.nodup_cons.mp nd).1 (by rw [e]; exact h2)) (by rw [b]; exact Same.refl _)) (h5 ys a b)⟩
theorem Env.dic_at {P : Hp} {L : List Addr} {n : Nat} {H : Hp} {σ : List (Option V)} {i : Nat} {kvs : List (D × D)} (E : Env c P L n H σ ρ) (h : ρ[i]? = some (.dic kvs)) : ∃ l, σ[i]? = some (some (.ref l)) ∧ l ∈ L ++ c.O ∧ NDict c.pr c.wd c.K (L ++ c.O) H l kvs ∧
    ∀ (o : HO) (lvs : List (D × D)), NDict c.pr c.wd c.K (L ++ c.O) (upd H l o) l lvs → Env c P L n (upd H l o) σ (ρ.set i (.dic lvs)) := by
  obtain ⟨Ls, sl, sb⟩ := E.slots
  have nd := sb.nodup E.nd
  obtain ⟨l, h1, h2, h3, _⟩ := sl.dic_at (lvs := kvs) nd h
  have lL := sb.subset h2
  have hm : l ∈ L ++ c.O := List.mem_append_left _ lL
  have hO : l ∉ c.O := (E.fresh l lL).2
  refine ⟨l, h1, hm, h3, fun o lvs hy => ?_⟩
  have bs : Same (hid c.B c.H0) (hid c.B (upd H l o)) := same_upd_old (E.fresh l lL).1 E.base
  obtain ⟨l', g1, g2, g3, g5⟩ := sl.dic_at (lvs := lvs) nd h
  rw [h1] at g1
  cases g1
  exact { nd := E.nd, fresh := E.fresh, slots := ⟨Ls, g5 o hy (hid_upd_in hm), sb⟩,
          lst := fun a ha => by
            by_cases e : a = l
            · exact ⟨_, by rw [e, upd_same]⟩
            · rw [upd_ne e]; exact E.lst a ha,
          bag := fun b q hb => (E.bag b q hb).move (fun o h => by rw [upd_ne fun e : b = l => hO (e ▸ (E.bO b q hb).1)]; exact h) fun o h => by rw [upd_ne fun e : q = l => hO (e ▸ (E.bO b q hb).2.1)]; exact h,
          base := bs, pers := by rw [hid_upd_in hm]; exact E.pers, bO := E.bO,
          al := fun o ho => by rw [upd_ne fun e : o = l => hO (e ▸ ho)]; exact E.al o ho }
/-- d[k] = e -/
theorem ws_dput {i : Nat} {kvs : List (D × D)} {tk : TE} (h0 : ρ[i]? = some (.dic kvs)) (hz : kvs.length < 16777216) (h : WE c te ρ n fun n1 vd => WE c tk ρ n1 fun n2 kd => keyD kd = true ∧ Ψ.nx n2 (ρ.set i (.dic (putD kvs kd vd)))) : WS c (tAsg te (gSub (tVar i) tk (rSetN c.pr c.wd c.K))) ρ n Ψ := fun P L σ H Dn E A => by
  refine h P L σ H _ E fun y vd n1 H1 s1 j1 r1 h1 => ?_
  have E1 := E.step s1 j1
  obtain ⟨l, g1, gL, g2, _⟩ := E1.dic_at h0
  refine ⟨.ref l, g1, ?_⟩
  refine h1 P L σ H1 _ E1 fun z kd n2 H2 s2 j2 r2 ⟨hk, k⟩ => ?_
  have E2 := E1.step s2 j2
  obtain ⟨l', g1', gL', g2', up⟩ := E2.dic_at h0
  rw [g1] at g1'
  cases g1'
  refine ⟨L ++ c.O, l, kvs, kd, vd, rfl, gL, g2', r2, hk, r1.mono (E1.sameLO s2), by rw [sizeLine_eq]; exact hz, fun φ hN => ?_⟩
  exact A.nx L n2 _ σ _ (up _ _ hN) k
/-- {} -/
theorem ws_dnew {i : Nat} (hi : i < ρ.length) (k : Ψ.nx n (ρ.set i (.dic []))) : WS c (tAsg (tDNewN c.pr c.wd) (gName i)) ρ n Ψ := fun P L σ H Dn E A => by
  intro p hp hs
  have w := E.new hp
  have nin : p ∉ L ++ c.O := E.noO p hp
  have T := E.newT (o := .ext (DictBare c.pr c.wd [] p)) hp
  have E1 := E.step T.1 T.2.1
  have e0 : ∀ O, hid (p :: O) (upd H p (.ext (DictBare c.pr c.wd [] p))) = hid O H := fun O => hid_new_in hp
  obtain ⟨Ls, sl0, sb⟩ := E.slots
  have sl : Slots c.pr c.wd c.K (p :: (L ++ c.O)) (upd H p (.ext (DictBare c.pr c.wd [] p))) σ ρ Ls := sl0.move (fun l hl => upd_ne fun e => w.2.2 (e ▸ sb.subset hl)) (by rw [e0]; exact Same.refl _)
  have nd : NDict c.pr c.wd c.K (p :: (L ++ c.O)) (upd H p (.ext (DictBare c.pr c.wd [] p))) p [] := ⟨[], upd_same, hs, .nil⟩
  obtain ⟨L1, L2, L3, sl2, eL, sub⟩ := Slots.setN nd (fun q => w.2.2 (sb.subset q)) i hi sl
  have mv : ∃ Lp : List Addr, (L1 ++ p :: L2).Sublist Lp ∧ Lp.Perm (p :: L) := by
    rw [eL] at sb
    have h5 : (L1 ++ L2).Sublist L := (List.Sublist.append_left sub L1).trans sb
    exact ins_sub h5
  obtain ⟨Lp, sLp, pLp⟩ := mv
  have mem : ∀ a, a ∈ Lp ++ c.O ↔ a ∈ p :: (L ++ c.O) := fun a => by
    rw [show p :: (L ++ c.O) = (p :: L) ++ c.O from rfl, List.mem_append, List.mem_append, pLp.mem_iff]
  refine A.nx Lp n _ _ _ ?_ k
  exact { nd := pLp.nodup_iff.mpr (List.nodup_cons.mpr ⟨w.2.2, E.nd⟩),
          fresh := fun l hl => by
            rcases List.mem_cons.mp (pLp.mem_iff.mp hl) with q | q
            · subst q; exact ⟨w.1, w.2.1⟩
            · exact E.fresh l q,
          slots := ⟨_, sl2.move (fun _ _ => rfl) (same_hid_sub fun a ha => (mem a).mp ha), sLp⟩,
          lst := fun l hl => by
            rcases List.mem_cons.mp (pLp.mem_iff.mp hl) with q | q
            · subst q; exact ⟨_, upd_same⟩
            · exact E1.lst l q,
          bag := T.2.1,
          base := E1.base,
          pers := (E.pers.trans (by rw [e0]; exact Same.refl _)).trans (same_hid_sub fun a ha => (mem a).mp ha),
          bO := E.bO, al := E1.al }
/-- sorted(d) -/
theorem wf_dsort {i : Nat} {kvs : List (D × D)} {Φ : Nat → List D → Prop} (h0 : ρ[i]? = some (.dic kvs)) (hp : plainAll (kvs.map (·.1)) = true) (hal : PySem.W.AllAlike ((kvs.map (·.1)).map dpy)) (hk : PySem.W.Sortable ((kvs.map (·.1)).map dpy)) (hL : kvs.length ≤ sizeLine)
    (hd : ∀ d ∈ kvs.map (·.1), (dpy d).depth ≤ 50) (k : Φ n (sortD (kvs.map (·.1)))) : WF c (tCB (rSortN c.pr c.wd c.K) (tCons (tVar i) tNil)) ρ n Φ := fun P L σ H Q E q => by
  obtain ⟨l, h1, hL', h2⟩ := E.dic_get h0
  refine ⟨.ref l, h1, L ++ c.O, l, kvs, rfl, h2, hp, hal, hk, hL, hd, fun p ys hpn hy => ?_⟩
  have T := E.newT (o := .lst ys) hpn
  exact q p ys _ n _ T.1 hpn upd_same (by rw [hid_new_in hpn]; exact hy) T.2.1 k
end
end L3
namespace Toy
open PySem L2 L3
def top (i : Nat) : Stmt := PySem.Challenge.pw_askedtrue_k23_whole_sure_in_all_ways_to.main.body.getD i (.Pass ⟨0, 0, 0, 0⟩)
structure Txt (mg : Str → Option Value) : Prop where
  b_len : mg "len" = none
  b_abs : mg "abs" = none
  b_sum : mg "sum" = none
  b_max : mg "max" = none
  b_all : mg "all" = none
  b_sorted : mg "sorted" = none
  b_isinstance : mg "isinstance" = none
  b_int : mg "int" = none
  b_bool : mg "bool" = none
  b_str : mg "str" = none
  b_list : mg "list" = none
  b_tuple : mg "tuple" = none
  b_range : mg "range" = none
  b_enumerate : mg "enumerate" = none
theorem hu65 {k : Nat} {A : Around} (hr : Room k A) : A.units + 65 < cLine := by have := hr.un; omega
section
variable {P : Program} {w : World} {K : PySem.W.Frag} {mg : Str → Option Value} {base : Heap}
/-! the draw -/
def spDraw : L3.Spec := fun bag n ds Φ => ∃ b q k, bag = some (b, q) ∧ ds = [.adr b, .int k] ∧ 0 < k ∧ k < 2 ^ 200 ∧ n < 2 ^ 60 ∧ ∀ r, 0 ≤ r → r < k → Φ (n + 1) (.int r)
abbrev s_law_draw : Stmt := top 5
abbrev N_law_draw : List Str := ["bag", "limit", "digit", "turn", "cells", "cell", "mixed"]
theorem sc_law_draw : FnScope N_law_draw ["bag", "limit"] (defScope s_law_draw) := ⟨rfl, rfl, rfl, by decide +kernel, rfl, by decide +kernel, by decide +kernel⟩

theorem upd3 {α : Type} (a b c x : α) : [a, b, c].set 2 x = [a, b, x] := rfl
theorem dec_gt {i j : Int} {A B : Prop} (h1 : j < i → A) (h2 : i ≤ j → B) : if decide (j < i) = true then A else B := by
  by_cases h : j < i
  · rw [if_pos (decide_eq_true h)]; exact h1 h
  · rw [if_neg (by simpa using h)]; exact h2 (by omega)
theorem ifs_ans {c : TT} {t u : TS} {D : Ends} {σ : L2.St} {H : Hp} (b : Bool) (hc : Ans c σ H b) (h1 : b = true → t D σ H) (h2 : b = false → u D σ H) : tIfS c t u D σ H := by
  refine hc _ ?_
  cases b with
  | true => exact h1 rfl
  | false => exact h2 rfl
theorem ok_draw {f : Addr} {fd : FuncData} (F : Fun K "_law_draw" "_law_draw" s_law_draw f fd) (T : Txt mg) : FnOk P w K mg base CX0 1 f fd ["bag", "limit"] (spD K spDraw) := by
  refine F.ok sc_law_draw (fun vs H Q E h => ?_) (fun cdv A outer s H vs Q E hr h => ?_)
  · obtain ⟨O, bag, n, ds, Φ, _, _, r, ⟨b, q, k, _, e, _⟩, _⟩ := h
    rw [r.length, e]; rfl
  · obtain ⟨O, bag, n, ds, Φ, hb, hO, r, ⟨b, q, k, e1, e2, k0, k1, hn, hk⟩, q0⟩ := h
    subst e1; subst e2
    obtain ⟨⟨t, r0, cs, h1, h2, h3, h4, h5, h6, h7, h8⟩, bO, qO, nqb⟩ := hb b q rfl
    obtain ⟨v1, v2, rfl, r1, r2⟩ := r.two
    cases r1
    cases r2
    have Qf : ∀ (x : Int) (t' r' : Int) (H' : Hp), 0 ≤ x → x < k → 0 ≤ t' → t' ≤ t + 1 → 0 ≤ r' → H' = upd H b (.lst [.ref q, .int t', .int r']) → Q (.int x) H' := fun x t' r' H' x0 xk t0 t1 r0 e => by
      subst e
      refine q0 _ (.int x) (n + 1) _ ?_ (fun b' q' e => ?_) (.int x) (hk x x0 xk)
      · show Same (hid [b] H) (hid [b] _)
        rw [hid_upd_in List.mem_cons_self]
        exact Same.refl _
      · cases e
        exact ⟨t', r', cs, upd_same, by rw [upd_ne nqb]; exact h2, h3, h4, h5, t0, by omega, r0⟩
    have hcl : 0 < cs.length := List.length_pos_iff.mpr h3
    have hlt : t.natAbs < 2 ^ 61 := by omega
    have hc63 : (cs.length : Int) ≤ 63 := by omega
    have kW : CDivW r0 k ∧ CDivW 0 k := by
      have : k.natAbs.log2 < 9000 := Nat.lt_of_lt_of_le (PySem.Flt.log2_lt_of (by decide) (show k.natAbs < 2 ^ 200 by omega)) (by decide)
      exact ⟨⟨k0, this⟩, ⟨k0, this⟩⟩
    refine ⟨_, (pss_cons (ps_if (pt_cmpR op_gt (pe_ix (x_ix K) (pv 0) pe_int (fun _ _ => rfl)) pe_int (nomark _)) (pss_cons (ps_set (i := 2) sc_law_draw.nd rfl (Or.inl rfl) (pe_op op_mod (pe_callTy call_intX (by rfl) T.b_int (by decide +kernel) (pa_cons (pe_ix (x_ix K) (pv 0) pe_int (fun _ _ => rfl)) pa_nil)) (pv 1)))
  (pss_cons (ps_asg (pe_op op_fdivW (pe_ix (x_ix K) (pv 0) pe_int (fun _ _ => rfl)) (pv 1)) (pg_sub (pv 0) pe_int set_list))
  (pss_one (ps_ret (pv 2))))) pss_nil)
  (pss_cons (ps_set (i := 3) sc_law_draw.nd rfl (Or.inl rfl) (pe_ix (x_ix K) (pv 0) pe_int (fun _ _ => rfl)))
  (pss_cons (ps_asg (pe_op (x_add K) (pv 3) pe_int) (pg_sub (pv 0) pe_int set_list))
  (pss_cons (ps_set (i := 4) sc_law_draw.nd rfl (Or.inl rfl) (pe_ix (x_ix K) (pv 0) pe_int (fun _ _ => rfl)))
  (pss_cons (ps_set (i := 5) sc_law_draw.nd rfl (Or.inl rfl) (pe_ix (x_ix K) (pv 4) (pe_op op_mod (pe_callTy call_intX (by rfl) T.b_int (by decide +kernel) (pa_cons (pv 3) pa_nil)) (pe_callB (x_len K) (by rfl) T.b_len (by decide +kernel) (pa_cons (pv 4) pa_nil))) (fun _ _ => rfl)))
  (pss_cons (ps_if (PW.pt (pw_and (pt_cmpR op_lt (pv 3) (pe_callB (x_len K) (by rfl) T.b_len (by decide +kernel) (pa_cons (pv 4) pa_nil)) (nomark _)) (pw_and1 (pt_cmpR op_ge (pv 5) (pe_op op_pow pe_int pe_int) (nomark _))))) (pss_cons (ps_asg (pe_op op_fdivW (pv 5) (pv 1)) (pg_sub (pv 0) pe_int set_list))
  (pss_one (ps_ret (pe_op op_mod (pe_callTy call_intX (by rfl) T.b_int (by decide +kernel) (pa_cons (pv 5) pa_nil)) (pv 1))))) pss_nil)
  (pss_cons (ps_set (i := 6) sc_law_draw.nd rfl (Or.inl rfl) (pe_op op_mod (pe_callTy call_intX (by rfl) T.b_int (by decide +kernel) (pa_cons (pe_op (x_add K) (pe_op (x_add K) (pe_op op_mul (pe_op (x_add K) (pv 5) pe_int) pe_int) (pe_op op_mul (pe_op op_mul (pv 3) (pv 3)) pe_int)) (pe_op op_mul (pv 3) pe_int)) pa_nil)) pe_int))
  (pss_cons (ps_set (i := 6) sc_law_draw.nd rfl (Or.inl rfl) (pe_op op_mod (pe_callTy call_intX (by rfl) T.b_int (by decide +kernel) (pa_cons (pe_op (x_add K) (pe_op op_mul (pv 6) pe_int) (pe_op op_mul (pe_op (x_add K) (pv 3) pe_int) pe_int)) pa_nil)) pe_int))
  (pss_one (ps_ret (pe_op op_mod (pe_callTy call_intX (by rfl) T.b_int (by decide +kernel) (pa_cons (pe_op op_fdivW (pv 6) pe_int) pa_nil)) (pv 1)))))))))))), ?_⟩
    refine ⟨_, rfl, .inl ⟨b, _, 2, .int r0, rfl, rfl, SqL.of h1, rfl, ?_⟩⟩
    refine ⟨r0, 0, rfl, rfl, _, rfl, ?_⟩
    refine dec_gt (fun hr0 => ?_) (fun hr0 => ?_)
    · refine ⟨_, rfl, .inl ⟨b, _, 2, .int r0, rfl, rfl, SqL.of h1, rfl, .inl ⟨r0, rfl, _, rfl, r0, k, rfl, rfl, k0, ?_⟩⟩⟩
      refine ⟨_, rfl, .inl ⟨b, _, 2, .int r0, rfl, rfl, SqL.of h1, rfl, _, rfl, r0, k, rfl, rfl, kW.1, ?_⟩⟩
      refine ⟨_, rfl, b, _, 2, 2, rfl, rfl, h1, rfl, _, rfl, ?_⟩
      exact Qf _ t (r0 / k) _ (Int.emod_nonneg _ (by omega)) (Int.emod_lt_of_pos _ k0) h6 (by omega) (Int.ediv_nonneg h8 (by omega)) rfl
    · refine ⟨_, rfl, .inl ⟨b, _, 1, .int t, rfl, rfl, SqL.of h1, rfl, ?_⟩⟩
      -- bag[1] = turn + 1
      refine ⟨_, rfl, .inl ⟨t, 1, rfl, rfl, _, rfl, b, _, 1, 1, rfl, rfl, h1, rfl, ?_⟩⟩
      have g1 : upd H b (.lst [.ref q, .int (t + 1), .int r0]) b = some (.lst [.ref q, .int (t + 1), .int r0]) := upd_same
      have g2 : upd H b (.lst [.ref q, .int (t + 1), .int r0]) q = some (.lst (cs.map V.int)) := by rw [upd_ne nqb]; exact h2
      -- cells = bag[0]; cell = cells[int(turn) % len(cells)]
      refine ⟨_, rfl, .inl ⟨b, _, 0, .ref q, rfl, rfl, SqL.of g1, rfl, ?_⟩⟩
      have hm0 : 0 ≤ t % (cs.length : Int) := Int.emod_nonneg _ (by omega)
      have hm1 : t % (cs.length : Int) < cs.length := Int.emod_lt_of_pos _ (by omega)
      obtain ⟨j, hj⟩ : ∃ j : Nat, t % (cs.length : Int) = j := ⟨(t % (cs.length : Int)).toNat, by omega⟩
      have hjl : j < cs.length := by omega
      have hat : atI (cs.map V.int) (t % (cs.length : Int)) = some (.int cs[j]) := by
        rw [hj]
        exact atI_nat (by rw [List.getElem?_map, List.getElem?_eq_getElem hjl]; rfl)
      have hc0 : 0 ≤ cs[j] := h4 _ (List.getElem_mem hjl)
      refine ⟨_, rfl, _, rfl, .inl ⟨t, rfl, _, rfl, .inl ⟨q, _, rfl, .inl (SqL.of g2), t, _, rfl, rfl, (by rw [List.length_map]; omega), ?_⟩⟩⟩
      refine .inl ⟨q, _, _, .int cs[j], rfl, rfl, SqL.of g2, by rw [List.length_map]; exact hat, ?_⟩
      generalize hcell : cs[j] = cell at hc0
      have fin : ∀ m : Int, 0 ≤ m % k ∧ m % k < k := fun m => ⟨Int.emod_nonneg _ (by omega), Int.emod_lt_of_pos _ k0⟩
      have tB : -(2 ^ 64) < t ∧ t < 2 ^ 64 := by omega
      unfold gName
      dsimp only
      refine st_seq ?_
      refine ifs_ans (decide (t < cs.length) && decide (10 ^ 18 ≤ cell)) (ans_and2 (fun Q' q' => ⟨_, rfl, _, rfl, .inl ⟨q, _, rfl, .inl (SqL.of g2), t, _, rfl, rfl, _, rfl, by rw [List.length_map]; exact q'⟩⟩) (fun Q' q' => ⟨_, rfl, 10, 18, rfl, rfl, ⟨by decide, by decide, by decide⟩, _, _, rfl, rfl, _, rfl, q'⟩)) (fun hb1 => ?_) (fun hb1 => ?_)
      · have kc : CDivW cell k := ⟨k0, kW.1.2⟩
        refine ⟨_, rfl, _, rfl, cell, k, rfl, rfl, kc, ?_⟩
        refine ⟨_, rfl, b, _, 2, 2, rfl, rfl, g1, rfl, _, rfl, .inl ⟨cell, rfl, _, rfl, cell, k, rfl, rfl, k0, ?_⟩⟩
        refine Qf _ (t + 1) (cell / k) _ (fin cell).1 (fin cell).2 (by omega) (by omega) (Int.ediv_nonneg hc0 (by omega)) ?_
        rw [upd_upd]; rfl
      · refine ⟨_, rfl, .inl ⟨cell, 17, rfl, rfl, _, _, rfl, rfl, .inr (by decide), ?_⟩⟩
        refine ⟨_, rfl, _, rfl, t, t, rfl, rfl, .inl tB, _, _, rfl, rfl, .inr (by decide), .inl ⟨_, _, rfl, rfl, ?_⟩⟩
        refine ⟨_, rfl, _, _, rfl, rfl, .inr (by decide), .inl ⟨_, _, rfl, rfl, .inl ⟨_, rfl, _, _, rfl, rfl, (by show (0 : Int) < 2147483647; decide), ?_⟩⟩⟩
        refine ⟨_, rfl, _, _, rfl, rfl, .inr (by decide), _, rfl, .inl ⟨t, 3, rfl, rfl, _, _, rfl, rfl, .inr (by decide), .inl ⟨_, _, rfl, rfl, .inl ⟨_, rfl, _, _, rfl, rfl, (by show (0 : Int) < 2147483399; decide), ?_⟩⟩⟩⟩
        refine ⟨_, rfl, _, _, rfl, rfl, ⟨by decide, by decide +kernel⟩, .inl ⟨_, rfl, _, rfl, _, _, rfl, rfl, k0, ?_⟩⟩
        exact Qf _ (t + 1) r0 _ (fin _).1 (fin _).2 (by omega) (by omega) h8 rfl
end
end Toy
namespace Toy
open PySem L2 L3
local macro_rules | `(tactic| walk_at "we1") => `(tactic| first
  | ((with_reducible refine' we_var ?hv ?_); (case hv => rfl))
  | (with_reducible refine we_int ?_)
  | (with_reducible refine we_str ?_)
  | (with_reducible refine we_bl ?_)
  | (with_reducible refine we_non ?_)
  | ((with_reducible refine' we_dix ?hv ?_); (case hv => rfl))
  | (with_reducible refine we_op ?_)
  | ((with_reducible refine' we_dget ?hv ?_); (case hv => rfl))
  | (with_reducible refine we_count ?_)
  | (with_reducible refine we_cb ?_)
  | (with_reducible refine we_call0 ?_)
  | (with_reducible refine we_tup ?_)
  | (with_reducible refine we_lst ?_)
  | (with_reducible refine we_if ?_)
  | (with_reducible refine we_not ?_)
  | (with_reducible refine we_and ?_)
  | (with_reducible refine we_or ?_)
  | (with_reducible refine we_isN ?_)
  | (with_reducible refine we_notN ?_)
  | (with_reducible refine we_sl ?_)
  | (with_reducible refine wa_cons ?_)
  | (with_reducible refine wa_nil ?_)
  | (with_reducible refine wt_test ?_)
  | (with_reducible refine wt_B ?_)
  | (with_reducible refine wt_and ?_)
  | (with_reducible refine wt_or ?_)
  | (with_reducible refine wt_not ?_)
  | (with_reducible refine wt_yes ?_)
  | (with_reducible refine wo_none ?_)
  | (with_reducible refine wo_some ?_)
  | ((with_reducible refine' r2_ix ?hx ?_); (case hx => rfl))
  | (with_reducible refine r2_isN ?_)
  | (with_reducible refine r2_notN ?_)
  | (with_reducible refine r2_lt ?_)
  | (with_reducible refine r2_le ?_)
  | (with_reducible refine r2_gt ?_)
  | (with_reducible refine r2_ge ?_)
  | (with_reducible refine r2_sub ?_)
  | (with_reducible refine r2_addI ?_)
  | (with_reducible refine r2_eqI ?_)
  | (with_reducible refine r2_neI ?_)
  | (with_reducible refine rc_int ?_)
  | (with_reducible refine rc_abs ?_)
  | ((with_reducible refine' rc_len ?hl ?_); (case hl => rfl))
  | (with_reducible refine wi_seq ?_)
  | (with_reducible refine wi_rng1 ?_)
  | (with_reducible refine wi_rng2 ?_)
  | (with_reducible refine wi_enum ?_)
  | (refine ⟨_, rfl, ?_⟩))
local macro_rules | `(tactic| walk_at "ws1") => `(tactic| first
  | (with_reducible refine ws_seq ?_)
  | (with_reducible refine ws_set ?_)
  | (with_reducible refine ws_ret ?_)
  | (with_reducible refine ws_if ?_)
  | (with_reducible refine ws_next ?_)
  | (with_reducible refine ws_asg ?_))
local macro_rules | `(tactic| walk_at "wg1") => `(tactic| first
  | (with_reducible refine wg_name (rw_name (by decide)) ?_)
  | (with_reducible refine wg_name (fun _ _ => trivial) ?_)
  | ((with_reducible refine' wg_tup ?hl ?_); (case hl => rfl))
  | (with_reducible refine wgs_cons rw_trans ?_)
  | (with_reducible refine wgs_nil rw_refl ?_)
  | (with_reducible refine wgs_cons (fun _ _ _ _ _ => trivial) ?_)
  | (with_reducible refine wgs_nil (fun _ => trivial) ?_))
local macro_rules | `(tactic| walk_at "go") => `(tactic| repeat' (first | walk_at "we1" | walk_at "wg1"))
section
variable {P : Program} {w : World} {K : PySem.W.Frag} {mg : Str → Option Value} {base : Heap}
/-! sure_entry -/
abbrev pairD (p : D × Int) : D := .tup [p.1, .int p.2]
def tot (ps : List (D × Int)) : Int := (ps.map (·.2)).sum
def mostD (ps : List (D × Int)) (e : D) : Int := ((ps.filter fun p => !eqD p.1 e).map (·.2)).foldl max 0
def fitsD (ps qs : List (D × Int)) (could : Int) : List D := (qs.filter fun p => decide (could < tot ps - mostD ps p.1)).map (·.1)
def sureD (ps : List (D × Int)) (could : Int) : D := match fitsD ps ps could with | [e] => e | _ => .non
theorem max_is {l : List Int} {m : Int} (h1 : m ∈ 0 :: l) (h2 : ∀ y ∈ 0 :: l, y ≤ m) : m = l.foldl max 0 := by
  have key : ∀ (l : List Int) (a : Int), l.foldl max a ∈ a :: l ∧ a ≤ l.foldl max a ∧ ∀ y ∈ l, y ≤ l.foldl max a := by
    intro l
    induction l with
    | nil => intro a; exact ⟨List.mem_cons_self, Int.le_refl _, fun y h => nomatch h⟩
    | cons x l ih =>
      intro a
      obtain ⟨g1, g2, g3⟩ := ih (max a x)
      show l.foldl max (max a x) ∈ _ ∧ a ≤ l.foldl max (max a x) ∧ ∀ y ∈ x :: l, y ≤ l.foldl max (max a x)
      refine ⟨?_, by omega, fun y hy => ?_⟩
      · rcases List.mem_cons.mp g1 with e | e
        · rw [e]
          by_cases hx : a ≤ x
          · rw [Int.max_eq_right hx]; simp
          · rw [Int.max_eq_left (by omega)]; simp
        · exact List.mem_cons_of_mem _ (List.mem_cons_of_mem _ e)
      · rcases List.mem_cons.mp hy with e | e
        · rw [e]; omega
        · exact g3 y e
  obtain ⟨g1, g2, g3⟩ := key l 0
  have a1 : l.foldl max 0 ≤ m := h2 _ g1
  have a2 : m ≤ l.foldl max 0 := by
    rcases List.mem_cons.mp h1 with e | e
    · rw [e]; exact g2
    · exact g3 m e
  omega
def spSure : L3.Spec := fun bag n ds Φ => ∃ (cd : D) (ps : List (D × Int)) (could : Int), ds = [cd, .int could] ∧ seqD cd = some (ps.map pairD) ∧ (∀ p ∈ ps, fit p.1 = true) ∧ ps.length ≤ 1000 ∧ Φ n (sureD ps could)
abbrev s_sure_entry : Stmt := top 2
abbrev N_sure_entry : List Str := ["counts", "could", "entry", "number", "total", "fits", "other", "count", "most"]
theorem sc_sure_entry : FnScope N_sure_entry ["counts", "could"] (defScope s_sure_entry) := ⟨rfl, rfl, rfl, by decide +kernel, rfl, by decide +kernel, by decide +kernel⟩

def secD : D → D
  | .tup [_, x] => x
  | _ => .non
def fstD : D → D
  | .tup [x, _] => x
  | _ => .non
theorem map_pair_sec (ps : List (D × Int)) : (ps.map pairD).map secD = (ps.map (·.2)).map D.int := by
  rw [List.map_map, List.map_map]; rfl
theorem filt_pair (ps : List (D × Int)) (q : D → Bool) : ((ps.map pairD).filter fun d => q (fstD d)).map secD = ((ps.filter fun p => q p.1).map (·.2)).map D.int := by
  rw [List.filter_map, List.map_map, List.map_map]; rfl
theorem ok_sure {f : Addr} {fd : FuncData} (F : Fun K "sure_entry" "sure_entry" s_sure_entry f fd) (T : Txt mg) : FnOk P w K mg base CX0 1 f fd ["counts", "could"] (spD K spSure) := by
  refine fn_D F sc_sure_entry (fun bag n ds Φ h => ?_) (fun cdv A outer s H E O bag n ds Φ hr h => ?_)
  · obtain ⟨cd, ps, could, e, _⟩ := h
    rw [e]; rfl
  · obtain ⟨cd, ps, could, e, hseq, hfit, hlen, k⟩ := h
    subst e
    refine ⟨_, (pss_cons (ps_set (i := 4) sc_sure_entry.nd rfl (Or.inl rfl) (pe_callB (x_sum K) (by rfl) T.b_sum (by decide +kernel) (pa_cons (pe_lc (own := [("entry", 2), ("number", 3)]) (g := gTup K 2 (gCons (gName 2) (gCons (gName 3) gNil))) (tt := tYes) rfl sc_sure_entry.nd (x_seq K (pv 0)) (blkOk_by (own := [("entry", 2), ("number", 3)]) (N := N_sure_entry) (sc := defScope s_sure_entry) (by decide +kernel)) (fun _ _ _ _ _ => (x_tgt K (pg_tup (by rfl) (pgs_cons (pg_name (i := 2) sc_sure_entry.nd rfl (Or.inl rfl)) (pgs_cons (pg_name (i := 3) sc_sure_entry.nd rfl (Or.inl rfl)) pgs_nil))))) (fun _ _ _ _ _ => pts_nil) (fun _ _ _ _ _ => (pv 3))) pa_nil)))
  (pss_cons (ps_set (i := 5) sc_sure_entry.nd rfl (Or.inl rfl) (pe_lst pa_nil))
  (pss_cons (ps_for PassesOwn.never rfl (x_seq K (pv 0)) (x_tgt K (pg_tup (by rfl) (pgs_cons (pg_name (i := 2) sc_sure_entry.nd rfl (Or.inr rfl)) (pgs_cons (pg_name (i := 3) sc_sure_entry.nd rfl (Or.inl rfl)) pgs_nil)))) (pss_cons (ps_set (i := 8) sc_sure_entry.nd rfl (Or.inl rfl) (pe_callB (x_max K) (by rfl) T.b_max (by decide +kernel) (pa_cons (pe_op (x_add K) (pe_lst (pa_cons pe_int pa_nil)) (pe_lc (own := [("other", 6), ("count", 7)]) (g := gTup K 2 (gCons (gName 6) (gCons (gName 7) gNil))) rfl sc_sure_entry.nd (x_seq K (pv 0)) (blkOk_by (own := [("other", 6), ("count", 7)]) (N := N_sure_entry) (sc := defScope s_sure_entry) (by decide +kernel)) (fun _ _ _ _ _ => (x_tgt K (pg_tup (by rfl) (pgs_cons (pg_name (i := 6) sc_sure_entry.nd rfl (Or.inl rfl)) (pgs_cons (pg_name (i := 7) sc_sure_entry.nd rfl (Or.inl rfl)) pgs_nil))))) (fun _ _ _ _ _ => (pts_one (pt_cmpR (x_ne K (by exact hr.units)) (pv 6) (pv 2) (nomark _)))) (fun _ _ _ _ _ => (pv 7)))) pa_nil)))
  (pss_one (ps_if (pt_cmpR op_gt (pe_op op_sub (pv 4) (pv 8)) (pv 1) (nomark _)) (pss_one (ps_expr (pe_bm PySem.F.plainAttrs_list PySem.F.slot_list_append PySem.F.type_list_append mt_append (pv 5) (pa_cons (pv 2) pa_nil)))) pss_nil))))
  (pss_one (ps_ret (pe_ifExp (pt_cmpR (x_eq K (by exact hr.units)) (pe_callB (x_len K) (by rfl) T.b_len (by decide +kernel) (pa_cons (pv 5) pa_nil)) pe_int (nomark _)) (pe_ix (x_ix K) (pv 5) pe_int (fun _ _ => rfl)) pe_non)))))), ?_⟩
    show WS _ _ [.val cd, .val (.int could), .un, .un, .un, .un, .un, .un, .un] n _
    have hl : (ps.map pairD).length ≤ 1000000 := by rw [List.length_map]; omega
    -- total
    walk_at "ws1"
    walk_at "ws1"
    walk_at "go"
    refine wf_we (wf_map secD (fun _ => true) ?_)
    walk_at "go"
    refine ⟨_, hseq, hl, fun d hd m => ?_, ?_⟩
    · obtain ⟨p, hp, rfl⟩ := List.mem_map.mp hd
      walk_at "go"
      refine ⟨rfl, rfl, fun _ => ?_⟩
      walk_at "go"
      exact ⟨rfl, rfl⟩
    rw [filt_all, map_pair_sec]
    walk_at "go"
    refine rc_sum ?_
    -- fits = []
    walk_at "ws1"
    refine ws_own (i := 5) (Nat.le_of_ble_eq_true rfl) (wf_lst (wa_nil ⟨by decide, ?_⟩))
    walk_at "ws1"
    refine ws_for ?_
    walk_at "go"
    refine ⟨_, hseq, fun k m ρ => m = n ∧ ∃ x2 x3 x8, ρ = [.val cd, .val (.int could), x2, x3, .val (.int (tot ps)), .own (fitsD ps (ps.take k) could), .un, .un, x8], ⟨rfl, _, _, _, rfl⟩, ?_, ?_⟩
    · rintro i m ρ1 d hd ⟨rfl, x2, x3, x8, rfl⟩
      rw [List.getElem?_map] at hd
      obtain ⟨p, hp, rfl⟩ : ∃ p, ps[i]? = some p ∧ d = pairD p := by
        cases e : ps[i]? with
        | none => rw [e] at hd; cases hd
        | some p => rw [e] at hd; exact ⟨p, rfl, (Option.some.inj hd).symm⟩
      have hpm := List.mem_of_getElem? hp
      walk_at "go"
      -- most
      walk_at "ws1"
      walk_at "ws1"
      walk_at "go"
      refine ⟨by decide, ?_⟩
      refine wf_we (wf_map secD (fun d => !eqD (fstD d) p.1) ?_)
      walk_at "go"
      refine ⟨_, hseq, hl, fun d hd m => ?_, ?_⟩
      · obtain ⟨p2, hp2, rfl⟩ := List.mem_map.mp hd
        walk_at "go"
        refine r2_neD (hfit _ hp2) (hfit _ hpm) ⟨_, rfl, rfl, rfl, fun _ => ?_⟩
        walk_at "go"
        exact ⟨rfl, rfl⟩
      rw [filt_pair ps fun d => !eqD d p.1]
      refine r2_cat ?_ ?_
      · have : (ps.filter fun p2 => !eqD p2.1 p.1).length ≤ ps.length := List.length_filter_le _ _
        simp only [List.length_cons, List.length_nil, List.length_map]
        omega
      walk_at "go"
      refine rc_max (ns := 0 :: ((ps.filter fun p2 => !eqD p2.1 p.1).map (·.2))) (by simp) fun mx h1 h2 => ?_
      have e := max_is h1 h2
      subst e
      -- if total - most > could
      walk_at "ws1"
      walk_at "go"
      have tk : ps.take (i + 1) = ps.take i ++ [p] := by rw [List.take_succ, hp]; rfl
      have fl : (fitsD ps (ps.take i) could).length ≤ 1000 := by
        unfold fitsD
        rw [List.length_map]
        exact Nat.le_trans (List.length_filter_le _ _) (by rw [List.length_take]; omega)
      refine dec2 (fun hb => ?_) (fun hb => ?_)
      · have e : fitsD ps (ps.take i) could ++ [p.1] = fitsD ps (ps.take (i + 1)) could := by
          unfold fitsD
          rw [tk, List.filter_append, List.map_append]
          congr 1
          have hb' : could < tot ps - mostD ps p.1 := hb
          simp [hb']
        refine ws_append (i := 5) rfl (we_var rfl ⟨small1000 fl, ?_⟩)
        rw [e]
        exact ⟨rfl, _, _, _, rfl⟩
      · have e : fitsD ps (ps.take i) could = fitsD ps (ps.take (i + 1)) could := by
          unfold fitsD
          rw [tk, List.filter_append, List.map_append]
          have hb' : ¬ could < tot ps - mostD ps p.1 := hb
          simp [hb']
        walk_at "ws1"
        rw [e]
        exact ⟨rfl, _, _, _, rfl⟩
    · rintro m ρ1 ⟨rfl, x2, x3, x8, rfl⟩
      have e : ps.take (ps.map pairD).length = ps := by rw [List.length_map, List.take_length]
      rw [e]
      refine ws_freeze 5 rfl ?_
      walk_at "ws1"
      walk_at "go"
      refine dec2 (fun hb => ?_) (fun hb => ?_)
      · walk_at "we1"
        walk_at "go"
        obtain ⟨x, hx⟩ : ∃ x, fitsD ps ps could = [x] := by
          cases hf : fitsD ps ps could with
          | nil => rw [hf] at hb; simp at hb
          | cons x l =>
            cases l with
            | nil => exact ⟨x, rfl⟩
            | cons y l => rw [hf] at hb; simp at hb; omega
        unfold sureD at k
        rw [hx] at k ⊢
        exact r2_ix rfl k
      · walk_at "we1"
        unfold sureD at k
        revert k
        cases hf : fitsD ps ps could with
        | nil => exact fun k => k
        | cons x l =>
          cases l with
          | nil => rw [hf] at hb; simp at hb
          | cons y l => exact fun k => k
end
end Toy
namespace Toy
open PySem L2 L3
local macro_rules | `(tactic| walk_at "we1") => `(tactic| first
  | ((with_reducible refine' we_var ?hv ?_); (case hv => rfl))
  | (with_reducible refine we_int ?_)
  | (with_reducible refine we_str ?_)
  | (with_reducible refine we_bl ?_)
  | (with_reducible refine we_non ?_)
  | ((with_reducible refine' we_dix ?hv ?_); (case hv => rfl))
  | (with_reducible refine we_op ?_)
  | ((with_reducible refine' we_dget ?hv ?_); (case hv => rfl))
  | (with_reducible refine we_count ?_)
  | (with_reducible refine we_cb ?_)
  | (with_reducible refine we_call0 ?_)
  | (with_reducible refine we_tup ?_)
  | (with_reducible refine we_lst ?_)
  | (with_reducible refine we_if ?_)
  | (with_reducible refine we_not ?_)
  | (with_reducible refine we_and ?_)
  | (with_reducible refine we_or ?_)
  | (with_reducible refine we_isN ?_)
  | (with_reducible refine we_notN ?_)
  | (with_reducible refine we_sl ?_)
  | (with_reducible refine wa_cons ?_)
  | (with_reducible refine wa_nil ?_)
  | (with_reducible refine wt_test ?_)
  | (with_reducible refine wt_B ?_)
  | (with_reducible refine wt_and ?_)
  | (with_reducible refine wt_or ?_)
  | (with_reducible refine wt_not ?_)
  | (with_reducible refine wt_yes ?_)
  | (with_reducible refine wo_none ?_)
  | (with_reducible refine wo_some ?_)
  | ((with_reducible refine' r2_ix ?hx ?_); (case hx => rfl))
  | (with_reducible refine r2_isN ?_)
  | (with_reducible refine r2_notN ?_)
  | (with_reducible refine r2_lt ?_)
  | (with_reducible refine r2_le ?_)
  | (with_reducible refine r2_gt ?_)
  | (with_reducible refine r2_ge ?_)
  | (with_reducible refine r2_sub ?_)
  | (with_reducible refine r2_addI ?_)
  | (with_reducible refine r2_eqI ?_)
  | (with_reducible refine r2_neI ?_)
  | (with_reducible refine rc_int ?_)
  | (with_reducible refine rc_abs ?_)
  | ((with_reducible refine' rc_len ?hl ?_); (case hl => rfl))
  | (with_reducible refine wi_seq ?_)
  | (with_reducible refine wi_rng1 ?_)
  | (with_reducible refine wi_rng2 ?_)
  | (with_reducible refine wi_enum ?_)
  | (refine ⟨_, rfl, ?_⟩))
local macro_rules | `(tactic| walk_at "ws1") => `(tactic| first
  | (with_reducible refine ws_seq ?_)
  | (with_reducible refine ws_set ?_)
  | (with_reducible refine ws_ret ?_)
  | (with_reducible refine ws_if ?_)
  | (with_reducible refine ws_next ?_)
  | (with_reducible refine ws_asg ?_))
local macro_rules | `(tactic| walk_at "wg1") => `(tactic| first
  | (with_reducible refine wg_name (rw_name (by decide)) ?_)
  | (with_reducible refine wg_name (fun _ _ => trivial) ?_)
  | ((with_reducible refine' wg_tup ?hl ?_); (case hl => rfl))
  | (with_reducible refine wgs_cons rw_trans ?_)
  | (with_reducible refine wgs_nil rw_refl ?_)
  | (with_reducible refine wgs_cons (fun _ _ _ _ _ => trivial) ?_)
  | (with_reducible refine wgs_nil (fun _ => trivial) ?_))
local macro_rules | `(tactic| walk_at "go") => `(tactic| repeat' (first | walk_at "we1" | walk_at "wg1"))
/-! ### the data: entries, copies -/
structure Ent where
  nm : Str
  ks : List Int
  v : Int
  deriving DecidableEq
def entD (e : Ent) : D := .tup [.str e.nm, .tup (e.ks.map .int), .int e.v]
def copyD (es : List Ent) : D := .tup (es.map entD)
def keyO : Option (List Int) → D
  | none => .non
  | some ks => .tup (ks.map .int)
/-- what fits the model: names without odd signs, keys not too long -/
def okE (e : Ent) : Prop := fit (entD e) = true ∧ keyD (entD e) = true
def hits (nm : Str) (k : Option (List Int)) (e : Ent) : Bool := decide (e.nm = nm) && (match k with | none => true | some ks => decide (e.ks = ks))
def toldOf (cs : List (List Ent)) (nm : Str) (k : Option (List Int)) : List Ent := (cs.map fun es => es.filter (hits nm k)).flatten
section
variable {P : Program} {w : World} {K : PySem.W.Frag} {mg : Str → Option Value} {base : Heap}
theorem eq_ints : ∀ (a b : List Int), PyData.eqvAll (dpyAll (a.map D.int)) (dpyAll (b.map D.int)) = decide (a = b)
  | [], [] => by simp [dpyAll, PyData.eqvAll]
  | [], _ :: _ => by simp [dpyAll, PyData.eqvAll]
  | _ :: _, [] => by simp [dpyAll, PyData.eqvAll]
  | x :: a, y :: b => by
    have ih := eq_ints a b
    show ((x == y) && PyData.eqvAll (dpyAll (a.map D.int)) (dpyAll (b.map D.int))) = _
    rw [ih]
    by_cases h : x = y
    · subst h; by_cases h2 : a = b <;> simp [h2]
    · simp [h]
theorem eq_str (a b : Str) : eqD (.str a) (.str b) = decide (a = b) := by
  show (a == b) = decide (a = b)
  by_cases h : a = b <;> simp [h]
theorem eq_tupI (a b : List Int) : eqD (.tup (a.map .int)) (.tup (b.map .int)) = decide (a = b) := eq_ints a b
theorem eq_ent (a b : Ent) : eqD (entD a) (entD b) = decide (a = b) := by
  have h1 : eqD (entD a) (entD b) = ((a.nm == b.nm) && (PyData.eqvAll (dpyAll (a.ks.map D.int)) (dpyAll (b.ks.map D.int)) && ((a.v == b.v) && true))) := rfl
  rw [h1, eq_ints]
  obtain ⟨n1, k1, v1⟩ := a
  obtain ⟨n2, k2, v2⟩ := b
  by_cases e1 : n1 = n2 <;> by_cases e2 : k1 = k2 <;> by_cases e3 : v1 = v2 <;> simp [e1, e2, e3]
/-! ### told_of -/
def spToldOf : L3.Spec := fun bag n ds Φ => ∃ (cs : List (List Ent)) (nm : Str) (k : Option (List Int)), ds = [.lst (cs.map copyD), .str nm, keyO k] ∧ cs.length ≤ 100 ∧ (∀ es ∈ cs, es.length ≤ 100 ∧ ∀ e ∈ es, okE e) ∧ fit (.str nm) = true ∧ fit (keyO k) = true ∧ Φ n (.lst ((toldOf cs nm k).map entD))
def hitD (nm : Str) (k : Option (List Int)) (d : D) : Bool := match d with
  | .tup [x, y, _] => eqD x (.str nm) && (match k with | none => true | some ks => eqD y (.tup (ks.map .int)))
  | _ => false
theorem hit_ent (nm : Str) (k : Option (List Int)) (e : Ent) : hitD nm k (entD e) = hits nm k e := by
  show (eqD (.str e.nm) (.str nm) && (match k with | none => true | some ks => eqD (.tup (e.ks.map .int)) (.tup (ks.map .int)))) = _
  unfold hits
  rw [eq_str]
  cases k with
  | none => rfl
  | some ks => show (_ && eqD _ _) = (_ && decide _); rw [eq_tupI]
theorem fitAll_mem {ds : List D} {d : D} (h : fit (.tup ds) = true) (hd : d ∈ ds) : fit d = true := by
  have hp := fit_p h
  have hs := fit_s h
  unfold fit
  rw [Bool.and_eq_true]
  refine ⟨plainAll_mem hp hd, ?_⟩
  unfold SeqAt.shaped at hs ⊢
  rw [Bool.and_eq_true] at hs ⊢
  have hc : PyData.canLayAll0 (dpyAll ds) = true := hs.1
  have hdp : PyData.depthAll (dpyAll ds) + 1 ≤ 64 := of_decide_eq_true hs.2
  have key : ∀ ds : List D, d ∈ ds → PyData.canLayAll0 (dpyAll ds) = true → PyData.canLay0 (dpy d) = true ∧ PyData.depth (dpy d) ≤ PyData.depthAll (dpyAll ds) := by
    intro ds
    induction ds with
    | nil => intro q; cases q
    | cons x xs ih =>
      intro q hc
      have hc' : (PyData.canLay0 (dpy x) && PyData.canLayAll0 (dpyAll xs)) = true := hc
      rw [Bool.and_eq_true] at hc'
      show _ ∧ _ ≤ max (PyData.depth (dpy x)) (PyData.depthAll (dpyAll xs))
      rcases List.mem_cons.mp q with e | e
      · rw [e]; exact ⟨hc'.1, by omega⟩
      · obtain ⟨g1, g2⟩ := ih e hc'.2
        exact ⟨g1, by omega⟩
  obtain ⟨g1, g2⟩ := key ds hd hc
  exact ⟨g1, decide_eq_true (by omega)⟩
theorem ok_nm {e : Ent} (h : okE e) : fit (.str e.nm) = true := fitAll_mem h.1 (by simp)
theorem ok_ks {e : Ent} (h : okE e) : fit (.tup (e.ks.map .int)) = true := fitAll_mem h.1 (by simp)
theorem flat_len {α : Type} : ∀ (l : List (List α)) (m : Nat), (∀ x ∈ l, x.length ≤ m) → l.flatten.length ≤ l.length * m
  | [], m, _ => by simp
  | x :: l, m, h => by
    have h1 := flat_len l m fun y hy => h y (List.mem_cons_of_mem _ hy)
    have h2 := h x List.mem_cons_self
    rw [List.flatten_cons, List.length_append, List.length_cons, Nat.add_mul, Nat.one_mul]
    omega
theorem told_len {cs : List (List Ent)} (hcs : cs.length ≤ 100) (hes : ∀ es ∈ cs, es.length ≤ 100) (i : Nat) (nm : Str) (k : Option (List Int)) : (toldOf (cs.take i) nm k).length ≤ 10000 := by
  have h1 := flat_len ((cs.take i).map fun es => es.filter (hits nm k)) 100 fun x hx => by
    obtain ⟨es, he, rfl⟩ := List.mem_map.mp hx
    exact Nat.le_trans (List.length_filter_le _ _) (hes es (List.mem_of_mem_take he))
  rw [List.length_map, List.length_take] at h1
  have : min i cs.length * 100 ≤ 100 * 100 := Nat.mul_le_mul_right _ (by omega)
  unfold toldOf
  omega
abbrev s_law_told_of : Stmt := top 9
abbrev N_law_told_of : List Str := ["copies", "name", "key", "found", "copy", "entry"]
theorem sc_law_told_of : FnScope N_law_told_of ["copies", "name", "key"] (defScope s_law_told_of) := ⟨rfl, rfl, rfl, by decide +kernel, rfl, by decide +kernel, by decide +kernel⟩

theorem ok_told_of {f : Addr} {fd : FuncData} (F : Fun K "_law_told_of" "_law_told_of" s_law_told_of f fd) (T : Txt mg) : FnOk P w K mg base CX0 1 f fd ["copies", "name", "key"] (spD K spToldOf) := by
  refine fn_D F sc_law_told_of (fun bag n ds Φ h => ?_) (fun cdv A outer s H E O bag n ds Φ hr h => ?_)
  · obtain ⟨cs, nm, k, e, _⟩ := h
    rw [e]; rfl
  · obtain ⟨cs, nm, k, e, hcs, hes, fn, fk, kk⟩ := h
    subst e
    refine ⟨_, (pss_cons (ps_set (i := 3) sc_law_told_of.nd rfl (Or.inl rfl) (pe_lst pa_nil))
  (pss_cons (ps_for PassesOwn.never rfl (x_seq K (pv 0)) (pg_name (i := 4) sc_law_told_of.nd rfl (Or.inl rfl)) (pss_one (ps_set (i := 3) sc_law_told_of.nd rfl (Or.inl rfl) (pe_op (x_add K) (pv 3) (pe_lc (own := [("entry", 5)]) (g := gName 5) rfl sc_law_told_of.nd (x_seq K (pv 4)) (blkOk_by (own := [("entry", 5)]) (N := N_law_told_of) (sc := defScope s_law_told_of) (by decide +kernel)) (fun _ _ _ _ _ => (pg_name (i := 5) sc_law_told_of.nd rfl (Or.inl rfl))) (fun _ _ _ _ _ => (pts_one (PW.pt (pw_and (pt_cmpR (x_eq K (by exact hr.units)) (pe_ix (x_ix K) (pv 5) pe_int (fun _ _ => rfl)) (pv 1) (nomark _)) (pw_and1 (PW.pt (pw_or (pt_cmpR op_isN1 (pv 2) pe_non (nomark _)) (pw_or1 (pt_cmpR (x_eq K (by exact hr.units)) (pe_ix (x_ix K) (pv 5) pe_int (fun _ _ => rfl)) (pv 2) (nomark _)))))))))) (fun _ _ _ _ _ => (pv 5)))))))
  (pss_one (ps_ret (pv 3))))), ?_⟩
    show WS _ _ [.val (.lst (cs.map copyD)), .val (.str nm), .val (keyO k), .un, .un, .un] n _
    walk_at "ws1"
    walk_at "ws1"
    walk_at "go"
    refine ⟨by decide, ?_⟩
    walk_at "ws1"
    refine ws_for ?_
    walk_at "we1"
    walk_at "we1"
    refine ⟨_, rfl, fun i m ρ => m = n ∧ ∃ x4 x5, ρ = [.val (.lst (cs.map copyD)), .val (.str nm), .val (keyO k), .val (.lst ((toldOf (cs.take i) nm k).map entD)), x4, x5], ⟨rfl, _, _, rfl⟩, ?_, ?_⟩
    · rintro i m ρ1 d hd ⟨rfl, x4, x5, rfl⟩
      obtain ⟨es, he, rfl, hm, tk⟩ := map_at hd
      have hl : ∀ i, ((toldOf (cs.take i) nm k).map entD).length ≤ 10000 := by
        intro i
        rw [List.length_map]
        exact told_len hcs (fun es h => (hes es h).1) i nm k
      walk_at "go"
      walk_at "ws1"
      walk_at "go"
      refine wf_we (wf_map id (hitD nm k) ?_)
      walk_at "we1"
      walk_at "we1"
      refine ⟨_, rfl, ?_, fun d hd m => ?_, ?_⟩
      · rw [List.length_map]; have := (hes es hm).1; omega
      · obtain ⟨e, hee, rfl⟩ := List.mem_map.mp hd
        have oke := (hes es hm).2 e hee
        have hh := hit_ent nm k e
        walk_at "go"
        refine r2_eqD (ok_nm oke) fn ?_
        walk_at "go"
        rw [eq_str]
        refine dec2 (fun h1 => ?_) (fun h1 => ?_)
        · cases k with
          | none =>
            walk_at "go"
            refine itT rfl ?_
            refine ⟨rfl, ?_, fun _ => ?_⟩
            · rw [hh]; simp [hits, h1]
            · walk_at "go"
              exact ⟨rfl, rfl⟩
          | some ks =>
            walk_at "go"
            refine itF rfl ?_
            walk_at "go"
            refine r2_eqD (ok_ks oke) fk ?_
            walk_at "go"
            refine ⟨rfl, ?_, fun _ => ?_⟩
            · rw [hh]
              show eqD (.tup (e.ks.map .int)) (.tup (ks.map .int)) = _
              rw [eq_tupI]; simp [hits, h1]
            · walk_at "go"
              exact ⟨rfl, rfl⟩
        · refine ⟨rfl, ?_, fun z => nomatch z⟩
          rw [hh]; simp [hits, h1]
      have e1 : ((es.map entD).filter (hitD nm k)).map id = (es.filter (hits nm k)).map entD := by
        rw [List.map_id, List.filter_map]
        congr 1
        exact List.filter_congr fun e _ => hit_ent nm k e
      rw [e1]
      have e2 : (toldOf (cs.take i) nm k).map entD ++ (es.filter (hits nm k)).map entD = (toldOf (cs.take (i + 1)) nm k).map entD := by
        simp only [toldOf, tk, List.map_append, List.flatten_append, List.map_cons, List.map_nil, List.flatten_cons, List.flatten_nil, List.append_nil]
      refine r2_cat ?_ ?_
      · have q := hl (i + 1)
        rw [← e2, List.length_append] at q
        omega
      rw [e2]
      exact ⟨rfl, _, _, rfl⟩
    · rintro m ρ1 ⟨rfl, x4, x5, rfl⟩
      have e : cs.take (cs.map copyD).length = cs := by rw [List.length_map, List.take_length]
      rw [e]
      walk_at "ws1"
      walk_at "go"
      exact kk
end
end Toy
namespace Toy
open PySem L2 L3
/-! ### plain lists -/
section
variable {α : Type} [DecidableEq α]
def firsts (l : List α) : List α := l.foldl (fun acc x => if x ∈ acc then acc else acc ++ [x]) []
theorem firsts_snoc (l : List α) (x : α) : firsts (l ++ [x]) = if x ∈ firsts l then firsts l else firsts l ++ [x] := by
  unfold firsts
  rw [List.foldl_append]; rfl
theorem snoc_ind {P : List α → Prop} (h0 : P []) (h1 : ∀ l x, P l → P (l ++ [x])) (l : List α) : P l := by
  have : ∀ m : List α, P m.reverse := by
    intro m
    induction m with
    | nil => exact h0
    | cons x m ih => rw [List.reverse_cons]; exact h1 _ _ ih
  have q := this l.reverse
  rw [List.reverse_reverse] at q
  exact q
theorem mem_firsts (l : List α) : ∀ x, x ∈ firsts l ↔ x ∈ l := by
  refine snoc_ind (P := fun l => ∀ x, x ∈ firsts l ↔ x ∈ l) (fun x => Iff.rfl) (fun l y ih x => ?_) l
  rw [firsts_snoc]
  by_cases h : y ∈ firsts l
  · rw [if_pos h, ih]
    constructor
    · exact fun q => List.mem_append_left _ q
    · intro q
      rcases List.mem_append.mp q with q | q
      · exact q
      · rw [List.mem_singleton.mp q]; exact (ih y).mp h
  · rw [if_neg h]
    simp [ih]
theorem nodup_firsts (l : List α) : (firsts l).Nodup := by
  refine snoc_ind (P := fun l => (firsts l).Nodup) List.nodup_nil (fun l y ih => ?_) l
  rw [firsts_snoc]
  by_cases h : y ∈ firsts l
  · rw [if_pos h]; exact ih
  · rw [if_neg h]
    exact List.nodup_append.mpr ⟨ih, by simp, fun a ha b hb => by rw [List.mem_singleton.mp hb]; exact fun e => h (e ▸ ha)⟩
theorem firsts_le (l : List α) : (firsts l).length ≤ l.length := by
  refine snoc_ind (P := fun l => (firsts l).length ≤ l.length) (Nat.le_refl _) (fun l y ih => ?_) l
  rw [firsts_snoc, List.length_append]
  by_cases h : y ∈ firsts l
  · rw [if_pos h]; simp; omega
  · rw [if_neg h, List.length_append]; simp; omega
/-- those that do not stand earlier -/
def earliest : List α → List α → List α
  | _, [] => []
  | pre, x :: l => if x ∈ pre then earliest (pre ++ [x]) l else x :: earliest (pre ++ [x]) l
theorem mem_earliest : ∀ (l pre : List α) (x : α), x ∈ earliest pre l ↔ x ∈ l ∧ x ∉ pre
  | [], pre, x => by simp [earliest]
  | y :: l, pre, x => by
    unfold earliest
    have ih := mem_earliest l (pre ++ [y]) x
    by_cases h : y ∈ pre
    · rw [if_pos h, ih]
      constructor
      · rintro ⟨a, b⟩
        exact ⟨List.mem_cons_of_mem _ a, fun q => b (List.mem_append_left _ q)⟩
      · rintro ⟨a, b⟩
        have ne : x ≠ y := fun e => b (e ▸ h)
        refine ⟨(List.mem_cons.mp a).resolve_left ne, fun q => ?_⟩
        rcases List.mem_append.mp q with q | q
        · exact b q
        · exact ne (List.mem_singleton.mp q)
    · rw [if_neg h, List.mem_cons, ih]
      constructor
      · rintro (e | ⟨a, b⟩)
        · subst e; exact ⟨List.mem_cons_self, h⟩
        · exact ⟨List.mem_cons_of_mem _ a, fun q => b (List.mem_append_left _ q)⟩
      · rintro ⟨a, b⟩
        by_cases e : x = y
        · exact .inl e
        · refine .inr ⟨(List.mem_cons.mp a).resolve_left e, fun q => ?_⟩
          rcases List.mem_append.mp q with q | q
          · exact b q
          · exact e (List.mem_singleton.mp q)
theorem nodup_earliest : ∀ (l pre : List α), (earliest pre l).Nodup
  | [], _ => List.nodup_nil
  | y :: l, pre => by
    unfold earliest
    by_cases h : y ∈ pre
    · rw [if_pos h]; exact nodup_earliest l _
    · rw [if_neg h]
      exact List.nodup_cons.mpr ⟨fun q => ((mem_earliest l _ _).mp q).2 (by simp), nodup_earliest l _⟩
theorem sub_earliest : ∀ (l pre : List α), (earliest pre l).Sublist l
  | [], _ => List.Sublist.refl _
  | y :: l, pre => by
    unfold earliest
    by_cases h : y ∈ pre
    · rw [if_pos h]; exact (sub_earliest l _).cons _
    · rw [if_neg h]; exact (sub_earliest l _).cons_cons _
end
/-! ### the order of entries -/
abbrev leE (a b : Ent) : Bool := LeD (entD a) (entD b)
def sortE (E : List Ent) : List Ent := E.mergeSort leE
theorem total_D : PySem.W.TotalLe LeD := PySem.W.sortLe_total _ _ _
theorem total_E : PySem.W.TotalLe leE := ⟨fun a b c h1 h2 => total_D.trans _ _ _ h1 h2, fun a b => total_D.total _ _⟩
theorem toks_ints : ∀ (a b : List Int) (A B : List (Int ⊕ List Nat)), PySem.W.keyToksAll (dpyAll (a.map D.int)) ++ A = PySem.W.keyToksAll (dpyAll (b.map D.int)) ++ B → a = b ∧ A = B
  | [], [], A, B, h => by
    have h' : Sum.inl 0 :: A = Sum.inl 0 :: B := h
    exact ⟨rfl, (List.cons.inj h').2⟩
  | [], y :: b, A, B, h => by
    have h' : (Sum.inl 0 : Int ⊕ List Nat) :: A = Sum.inl 1 :: (Sum.inl y :: (PySem.W.keyToksAll (dpyAll (b.map D.int)) ++ B)) := h
    exact absurd (Sum.inl.inj (List.cons.inj h').1) (by decide)
  | x :: a, [], A, B, h => by
    have h' : (Sum.inl 1 : Int ⊕ List Nat) :: (Sum.inl x :: (PySem.W.keyToksAll (dpyAll (a.map D.int)) ++ A)) = Sum.inl 0 :: B := h
    exact absurd (Sum.inl.inj (List.cons.inj h').1) (by decide)
  | x :: a, y :: b, A, B, h => by
    have h' : (Sum.inl 1 : Int ⊕ List Nat) :: (Sum.inl x :: (PySem.W.keyToksAll (dpyAll (a.map D.int)) ++ A)) = Sum.inl 1 :: (Sum.inl y :: (PySem.W.keyToksAll (dpyAll (b.map D.int)) ++ B)) := h
    have h1 := (List.cons.inj h').2
    have h2 := List.cons.inj h1
    obtain ⟨e1, e2⟩ := toks_ints a b A B h2.2
    exact ⟨by rw [Sum.inl.inj h2.1, e1], e2⟩
theorem anti_E (a b : Ent) (h1 : leE a b = true) (h2 : leE b a = true) : a = b := by
  have h1' : (!PySem.W.dataLt (dpy (entD b)) (dpy (entD a))) = true := h1
  have h2' : (!PySem.W.dataLt (dpy (entD a)) (dpy (entD b))) = true := h2
  have h1'' : PySem.W.dataLt (dpy (entD b)) (dpy (entD a)) = false := by simpa using h1'
  have h2'' : PySem.W.dataLt (dpy (entD a)) (dpy (entD b)) = false := by simpa using h2'
  have e : PySem.W.keyToks (dpy (entD a)) = PySem.W.keyToks (dpy (entD b)) := (PyProof.Rows.listOrd PyProof.Rows.itemOrd).total _ _ h2'' h1''
  have e' : Sum.inl 1 :: Sum.inr a.nm.cps.toList :: Sum.inl 1 :: (PySem.W.keyToksAll (dpyAll (a.ks.map D.int)) ++ (Sum.inl 1 :: Sum.inl a.v :: [Sum.inl 0])) = (Sum.inl 1 :: Sum.inr b.nm.cps.toList :: Sum.inl 1 :: (PySem.W.keyToksAll (dpyAll (b.ks.map D.int)) ++ (Sum.inl 1 :: Sum.inl b.v :: [Sum.inl 0])) : List (Int ⊕ List Nat)) := e
  have e1 := List.cons.inj (List.cons.inj e').2
  obtain ⟨g1, g2⟩ := toks_ints _ _ _ _ (List.cons.inj e1.2).2
  have g3 := List.cons.inj (List.cons.inj g2).2
  obtain ⟨n1, k1, v1⟩ := a
  obtain ⟨n2, k2, v2⟩ := b
  have q1 : n1 = n2 := PySem.W.str_of_cps (Sum.inr.inj e1.1)
  have q2 : k1 = k2 := g1
  have q3 : v1 = v2 := Sum.inl.inj g3.1
  rw [q1, q2, q3]
theorem sortE_perm (E : List Ent) : (sortE E).Perm E := List.mergeSort_perm _ _
theorem sortE_sorted (E : List Ent) : (sortE E).Pairwise fun a b => leE a b = true := PySem.W.sort_pairwise total_E E
/-- two rising rows with the same, each once, are one -/
theorem one_row {l m : List Ent} (h1 : l.Pairwise fun a b => leE a b = true) (h2 : m.Pairwise fun a b => leE a b = true) (n1 : l.Nodup) (n2 : m.Nodup) (e : ∀ x, x ∈ l ↔ x ∈ m) : l = m := by
  have p : l.Perm m := (List.perm_ext_iff_of_nodup n1 n2).mpr e
  exact p.eq_of_pairwise (fun a b _ _ x y => anti_E a b x y) h1 h2
theorem earliest_sort (E : List Ent) : earliest [] (sortE E) = sortE (firsts E) := by
  refine one_row ((sortE_sorted E).sublist (sub_earliest _ _)) (sortE_sorted _) (nodup_earliest _ _) ((sortE_perm _).nodup_iff.mpr (nodup_firsts E)) fun x => ?_
  rw [mem_earliest, (sortE_perm E).mem_iff, (sortE_perm (firsts E)).mem_iff, mem_firsts]
  simp
theorem sortD_ent (E : List Ent) : sortD (E.map entD) = (sortE E).map entD := (PySem.W.sort_maps (r := leE) (s := LeD) entD fun _ _ _ _ => rfl).symm
theorem alike_E (E : List Ent) : PySem.W.AllAlike ((E.map entD).map dpy) := by
  rw [List.map_map]
  refine PySem.W.AllAlike.of fun a b => ?_
  have h : PySem.W.alike (dpy (entD a)) (dpy (entD b)) = (true && (PySem.W.alikeAll (dpyAll (a.ks.map D.int)) (dpyAll (b.ks.map D.int)) && (true && true))) := rfl
  show PySem.W.alike (dpy (entD a)) (dpy (entD b)) = true
  rw [h, dpyAll_map, dpyAll_map, List.map_map, List.map_map]
  have := PySem.W.alike_ints a.ks b.ks
  have e : (dpy ∘ D.int) = PyData.int := rfl
  rw [e, this]; rfl
theorem sortable_E (E : List Ent) : PySem.W.Sortable ((E.map entD).map dpy) := by
  rw [List.map_map]
  exact PySem.W.Sortable.tuples fun b => ⟨_, _, rfl⟩
theorem depth_E (e : Ent) : (dpy (entD e)).depth ≤ 2 := by
  have h : (dpy (entD e)).depth = max 0 (max (PyData.depthAll (dpyAll (e.ks.map D.int)) + 1) (max 0 0)) + 1 := rfl
  have h2 : PyData.depthAll (dpyAll (e.ks.map D.int)) = 0 := by
    rw [dpyAll_map, List.map_map]
    exact PySem.W.depth_ints e.ks
  rw [h, h2]; decide
theorem fit_list {ds : List D} (h : ∀ d ∈ ds, fit d = true ∧ (dpy d).depth ≤ 60) : fit (.lst ds) = true ∧ fit (.tup ds) = true := by
  have hp : plainAll ds = true := by
    induction ds with
    | nil => rfl
    | cons x ds ih =>
      show (plain x && plainAll ds) = true
      rw [fit_p (h x List.mem_cons_self).1, ih fun d hd => h d (List.mem_cons_of_mem _ hd)]; rfl
  have hc : PyData.canLayAll0 (dpyAll ds) = true ∧ PyData.depthAll (dpyAll ds) ≤ 60 := by
    clear hp
    induction ds with
    | nil => exact ⟨rfl, Nat.zero_le _⟩
    | cons x ds ih =>
      obtain ⟨i1, i2⟩ := ih fun d hd => h d (List.mem_cons_of_mem _ hd)
      have hx := h x List.mem_cons_self
      refine ⟨?_, ?_⟩
      · show (PyData.canLay0 (dpy x) && PyData.canLayAll0 (dpyAll ds)) = true
        rw [SeqAt.canLay_of_shaped (fit_s hx.1), i1]; rfl
      · show max (PyData.depth (dpy x)) (PyData.depthAll (dpyAll ds)) ≤ 60
        exact Nat.max_le.mpr ⟨hx.2, i2⟩
  have sh : SeqAt.shaped (dpy (.lst ds)) = true ∧ SeqAt.shaped (dpy (.tup ds)) = true := by
    unfold SeqAt.shaped
    have d1 : (dpy (.lst ds)).depth = PyData.depthAll (dpyAll ds) + 1 := rfl
    have d2 : (dpy (.tup ds)).depth = PyData.depthAll (dpyAll ds) + 1 := rfl
    have c1 : (dpy (.lst ds)).canLay0 = PyData.canLayAll0 (dpyAll ds) := rfl
    have c2 : (dpy (.tup ds)).canLay0 = PyData.canLayAll0 (dpyAll ds) := rfl
    rw [d1, d2, c1, c2, hc.1]
    have : decide (PyData.depthAll (dpyAll ds) + 1 ≤ 64) = true := decide_eq_true (by omega)
    rw [this]; exact ⟨rfl, rfl⟩
  unfold fit
  have p1 : plain (.lst ds) = plainAll ds := rfl
  have p2 : plain (.tup ds) = plainAll ds := rfl
  rw [p1, p2, hp, sh.1, sh.2]; exact ⟨rfl, rfl⟩
theorem fit_ents {E : List Ent} (h : ∀ e ∈ E, okE e) : fit (.lst (E.map entD)) = true := (fit_list fun d hd => by
  obtain ⟨e, he, rfl⟩ := List.mem_map.mp hd
  exact ⟨(h e he).1, Nat.le_trans (depth_E e) (by decide)⟩).1
theorem plain_ents (E : List Ent) : plainAll (E.map entD) = true := by
  have hInts : ∀ ks : List Int, plainAll (ks.map D.int) = true := fun ks => by
    induction ks with
    | nil => rfl
    | cons k ks ih => show (true && plainAll (ks.map D.int)) = true; rw [ih]; rfl
  induction E with
  | nil => rfl
  | cons e E ih =>
    have h : plainAll ((e :: E).map entD) = ((true && (plainAll (e.ks.map D.int) && (true && true))) && plainAll (E.map entD)) := rfl
    rw [h, hInts, ih]; rfl
theorem inD_ent (e : Ent) (E : List Ent) : inD (entD e) (E.map entD) = decide (e ∈ E) := by
  unfold inD
  rw [List.any_map]
  by_cases h : e ∈ E
  · rw [decide_eq_true h]
    exact List.any_eq_true.mpr ⟨e, h, by show eqD (entD e) (entD e) = true; rw [eq_ent]; simp⟩
  · rw [decide_eq_false h]
    refine List.any_eq_false.mpr fun x hx => ?_
    show ¬ eqD (entD x) (entD e) = true
    rw [eq_ent]
    simp only [decide_eq_true_eq]
    exact fun q => h (q ▸ hx)
theorem count_ent (e : Ent) (E : List Ent) : (E.map entD).countP (fun z => eqD z (entD e)) = E.count e := by
  rw [List.countP_map]
  unfold List.count
  refine List.countP_congr fun x _ => ?_
  show eqD (entD x) (entD e) = true ↔ (x == e) = true
  rw [eq_ent]; simp
/-! ### the dict of numbers -/
theorem nk_ints : ∀ (a b : List Int), nkAll (a.map D.int) = nkAll (b.map D.int) → a = b
  | [], [], _ => rfl
  | [], _ :: _, h => by cases h
  | _ :: _, [], h => by cases h
  | x :: a, y :: b, h => by
    have h' : NestedKey.num x :: nkAll (a.map D.int) = NestedKey.num y :: nkAll (b.map D.int) := h
    obtain ⟨h1, h2⟩ := List.cons.inj h'
    rw [NestedKey.num.inj h1, nk_ints a b h2]
theorem nk_ent (a b : Ent) : nk (entD a) = nk (entD b) ↔ a = b := by
  constructor
  · intro h
    have h' : NestedKey.tup [.text a.nm, .tup (nkAll (a.ks.map D.int)), .num a.v] = NestedKey.tup [.text b.nm, .tup (nkAll (b.ks.map D.int)), .num b.v] := h
    have h1 := NestedKey.tup.inj h'
    have h2 := List.cons.inj h1
    have h3 := List.cons.inj h2.2
    have h4 := List.cons.inj h3.2
    obtain ⟨n1, k1, v1⟩ := a
    obtain ⟨n2, k2, v2⟩ := b
    have q1 : n1 = n2 := NestedKey.text.inj h2.1
    have q2 : k1 = k2 := nk_ints _ _ (NestedKey.tup.inj h3.1)
    have q3 : v1 = v2 := NestedKey.num.inj h4.1
    rw [q1, q2, q3]
  · intro h; rw [h]
def kvOf (E : List Ent) : List (D × D) := (firsts E).map fun e => (entD e, D.int (E.count e : Nat))
theorem look_map (f : Ent → D) (x : Ent) : ∀ (l : List Ent), lookD (l.map fun e => (entD e, f e)) (entD x) = if x ∈ l then some (f x) else none
  | [] => rfl
  | y :: l => by
    have ih := look_map f x l
    unfold lookD at ih ⊢
    rw [List.map_cons]
    by_cases h : y = x
    · subst h
      rw [List.find?_cons_of_pos (by simp), if_pos List.mem_cons_self]; rfl
    · rw [List.find?_cons_of_neg (by simpa [nk_ent] using h), ih]
      have : (x ∈ y :: l) ↔ x ∈ l := by
        rw [List.mem_cons]
        exact ⟨fun q => q.resolve_left fun e => h e.symm, .inr⟩
      by_cases q : x ∈ l
      · rw [if_pos q, if_pos (this.mpr q)]
      · rw [if_neg q, if_neg fun z => q (this.mp z)]
theorem look_kv (E : List Ent) (x : Ent) : lookD (kvOf E) (entD x) = if x ∈ E then some (.int (E.count x : Nat)) else none := by
  unfold kvOf
  rw [look_map (fun e => D.int (E.count e : Nat))]
  by_cases h : x ∈ E
  · rw [if_pos h, if_pos ((mem_firsts E x).mpr h)]
  · rw [if_neg h, if_neg fun q => h ((mem_firsts E x).mp q)]
theorem get_kv (E : List Ent) (x : Ent) : (lookD (kvOf E) (entD x)).getD (.int 0) = .int (E.count x : Nat) := by
  rw [look_kv]
  by_cases h : x ∈ E
  · rw [if_pos h]; rfl
  · rw [if_neg h, List.count_eq_zero_of_not_mem h]; rfl
theorem put_kv (E : List Ent) (x : Ent) : putD (kvOf E) (entD x) (.int ((E.count x : Nat) + 1)) = kvOf (E ++ [x]) := by
  unfold putD
  rw [look_kv]
  have cnt : ∀ e : Ent, (E ++ [x]).count e = E.count e + if x = e then 1 else 0 := fun e => by
    rw [List.count_append, List.count_singleton]
    by_cases h : x = e <;> simp [h]
  by_cases h : x ∈ E
  · rw [if_pos h]
    show List.map _ (kvOf E) = _
    unfold kvOf
    rw [firsts_snoc, if_pos ((mem_firsts E x).mpr h), List.map_map]
    refine List.map_congr_left fun e _ => ?_
    show (if nk (entD e) = nk (entD x) then (entD e, D.int ((E.count x : Nat) + 1)) else (entD e, D.int (E.count e : Nat))) = (entD e, D.int ((E ++ [x]).count e : Nat))
    rw [cnt]
    by_cases q : e = x
    · subst q
      rw [if_pos rfl, if_pos rfl]; rfl
    · rw [if_neg fun z => q ((nk_ent _ _).mp z), if_neg fun z => q z.symm]; rfl
  · rw [if_neg h]
    show kvOf E ++ [(entD x, D.int ((E.count x : Nat) + 1))] = _
    unfold kvOf
    rw [firsts_snoc, if_neg fun q => h ((mem_firsts E x).mp q), List.map_append]
    congr 1
    · refine List.map_congr_left fun e he => ?_
      rw [cnt, if_neg fun z => h (by rw [z]; exact (mem_firsts E e).mp he)]; rfl
    · show [(entD x, D.int ((E.count x : Nat) + 1))] = [(entD x, D.int ((E ++ [x]).count x : Nat))]
      rw [cnt, if_pos rfl]; rfl
theorem kv_keys (E : List Ent) : (kvOf E).map (·.1) = (firsts E).map entD := by
  unfold kvOf
  rw [List.map_map]; rfl
def countedD (E : List Ent) : List D := (sortE (firsts E)).map fun e => pairD (entD e, (E.count e : Nat))
end Toy
namespace L3
open PySem L2
section
variable {P : Program} {w : World} {K : PySem.W.Frag} {mg : Str → Option Value} {base : Heap}
/-- a def with defaults by its body, over data -/
theorem fn_DD {x qual : Str} {st : Stmt} {f : Addr} {fd : FuncData} {N ps : List Str} {k : Nat} {S : Spec} {dvs : List V} (F : FunD K x qual (defArgs st) (defBody st) (defScope st) dvs [] f fd) (sc : FnScope N ps (defScope st))
    (len : ∀ bag n ds Φ, S bag n ds Φ → ds.length = ps.length)
    (body : ∀ (cdv : Value) (A : Around) (outer : List PySem.Env) (s : Shared) (H : Hp) (E : XK) (O : List Addr) (bag : Option (Addr × Addr)) (n : Nat) (ds : List D) (Φ : Nat → D → Prop), Room k (A.deeper (PyProof.Rows.envOfC qual (defScope st) s.heap.objs.size f cdv)) → S bag n ds Φ →
      ∃ t, PSs (cxOf CX0 P w K mg base N qual (defScope st) f cdv A outer s H E).nox (defBody st) t ∧ WS ⟨P, w, K, O, bag, H⟩ t (rho N ds) n { nx := fun n' _ => Φ n' .non, rt := Φ }) :
    FnOk P w K mg base CX0 (k + 1) f fd ps (spD K S) := by
  refine F.ok sc (fun vs H Q E h => ?_) (fun cdv A outer s H vs Q E hr h => ?_)
  · obtain ⟨O, bag, n, ds, Φ, _, _, r, hS, _⟩ := h
    rw [r.length]; exact len bag n ds Φ hS
  · obtain ⟨O, bag, n, ds, Φ, hb, hO, r, hS, q⟩ := h
    obtain ⟨t, ht, W⟩ := body cdv A outer s H E O bag n ds Φ hr hS
    refine ⟨t, ht.nox, W (fun _ => none) [] _ H _ ?_ ?_⟩
    · have e : L2.start N vs = vs.map some ++ List.replicate (N.length - ds.length) none := by unfold L2.start; rw [r.length]
      exact { nd := List.nodup_nil, fresh := (fun l hl => nomatch hl), slots := ⟨[], by rw [e]; exact slots_start r, List.Sublist.refl _⟩, lst := (fun l hl => nomatch hl), bag := fun b q e => (hb b q e).1, base := Same.refl _,
              pers := (fun _ _ e => nomatch e), bO := fun b q e => (hb b q e).2, al := hO }
    · exact { nx := fun L n' H' σ ρ E k => q .non .non n' H' E.base (fun b q e => E.bag b q e) .non k,
              rt := fun v d n' H' s j r k => q v d n' H' s j r k, bk := fun _ _ _ _ _ _ k => k.elim, ct := fun _ _ _ _ _ _ k => k.elim }
end
end L3
namespace Toy
open PySem L2 L3
local macro_rules | `(tactic| walk_at "we1") => `(tactic| first
  | ((with_reducible refine' we_var ?hv ?_); (case hv => rfl))
  | (with_reducible refine we_int ?_)
  | (with_reducible refine we_str ?_)
  | (with_reducible refine we_bl ?_)
  | (with_reducible refine we_non ?_)
  | ((with_reducible refine' we_dix ?hv ?_); (case hv => rfl))
  | (with_reducible refine we_op ?_)
  | ((with_reducible refine' we_dget ?hv ?_); (case hv => rfl))
  | (with_reducible refine we_count ?_)
  | (with_reducible refine we_cb ?_)
  | (with_reducible refine we_call0 ?_)
  | (with_reducible refine we_tup ?_)
  | (with_reducible refine we_lst ?_)
  | (with_reducible refine we_if ?_)
  | (with_reducible refine we_not ?_)
  | (with_reducible refine we_and ?_)
  | (with_reducible refine we_or ?_)
  | (with_reducible refine we_isN ?_)
  | (with_reducible refine we_notN ?_)
  | (with_reducible refine we_sl ?_)
  | (with_reducible refine wa_cons ?_)
  | (with_reducible refine wa_nil ?_)
  | (with_reducible refine wt_test ?_)
  | (with_reducible refine wt_B ?_)
  | (with_reducible refine wt_and ?_)
  | (with_reducible refine wt_or ?_)
  | (with_reducible refine wt_not ?_)
  | (with_reducible refine wt_yes ?_)
  | (with_reducible refine wo_none ?_)
  | (with_reducible refine wo_some ?_)
  | ((with_reducible refine' r2_ix ?hx ?_); (case hx => rfl))
  | (with_reducible refine r2_isN ?_)
  | (with_reducible refine r2_notN ?_)
  | (with_reducible refine r2_lt ?_)
  | (with_reducible refine r2_le ?_)
  | (with_reducible refine r2_gt ?_)
  | (with_reducible refine r2_ge ?_)
  | (with_reducible refine r2_sub ?_)
  | (with_reducible refine r2_addI ?_)
  | (with_reducible refine r2_eqI ?_)
  | (with_reducible refine r2_neI ?_)
  | (with_reducible refine rc_int ?_)
  | (with_reducible refine rc_abs ?_)
  | ((with_reducible refine' rc_len ?hl ?_); (case hl => rfl))
  | (with_reducible refine wi_seq ?_)
  | (with_reducible refine wi_rng1 ?_)
  | (with_reducible refine wi_rng2 ?_)
  | (with_reducible refine wi_enum ?_)
  | (refine ⟨_, rfl, ?_⟩))
local macro_rules | `(tactic| walk_at "ws1") => `(tactic| first
  | (with_reducible refine ws_seq ?_)
  | (with_reducible refine ws_set ?_)
  | (with_reducible refine ws_ret ?_)
  | (with_reducible refine ws_if ?_)
  | (with_reducible refine ws_next ?_)
  | (with_reducible refine ws_asg ?_))
local macro_rules | `(tactic| walk_at "wg1") => `(tactic| first
  | (with_reducible refine wg_name (rw_name (by decide)) ?_)
  | (with_reducible refine wg_name (fun _ _ => trivial) ?_)
  | ((with_reducible refine' wg_tup ?hl ?_); (case hl => rfl))
  | (with_reducible refine wgs_cons rw_trans ?_)
  | (with_reducible refine wgs_nil rw_refl ?_)
  | (with_reducible refine wgs_cons (fun _ _ _ _ _ => trivial) ?_)
  | (with_reducible refine wgs_nil (fun _ => trivial) ?_))
local macro_rules | `(tactic| walk_at "go") => `(tactic| repeat' (first | walk_at "we1" | walk_at "wg1"))
section
variable {P : Program} {w : World} {K : PySem.W.Frag} {mg : Str → Option Value} {base : Heap}
def spTold : L3.Spec := fun bag n ds Φ => ∃ (cs : List (List Ent)) (nm : Str) (k : Option (List Int)), ds = [.lst (cs.map copyD), .str nm, keyO k] ∧ cs.length ≤ 100 ∧ (∀ es ∈ cs, es.length ≤ 100 ∧ ∀ e ∈ es, okE e) ∧ fit (.str nm) = true ∧ fit (keyO k) = true ∧ Φ n (.tup (countedD (toldOf cs nm k)))
def toldEnt : D → D
  | .tup _ => .non
  | _ => .non
abbrev s_told_counts : Stmt := top 1
abbrev N_told_counts : List Str := ["copies", "name", "key", "numbers", "copy", "entry"]
theorem sc_told_counts : FnScope N_told_counts ["copies", "name", "key"] (defScope s_told_counts) := ⟨rfl, rfl, rfl, by decide +kernel, rfl, by decide +kernel, by decide +kernel⟩

theorem ok_told {f : Addr} {fd : FuncData} (F : FunD K "told_counts" "told_counts" (defArgs s_told_counts) (defBody s_told_counts) (defScope s_told_counts) [.non] [] f fd) (T : Txt mg) : FnOk P w K mg base CX0 1 f fd ["copies", "name", "key"] (spD K spTold) := by
  refine fn_DD F sc_told_counts (fun bag n ds Φ h => ?_) (fun cdv A outer s H E O bag n ds Φ hr h => ?_)
  · obtain ⟨cs, nm, k, e, _⟩ := h
    rw [e]; rfl
  · obtain ⟨cs, nm, k, e, hcs, hes, fn, fk, kk⟩ := h
    subst e
    refine ⟨_, (pss_cons (ps_set (i := 3) sc_told_counts.nd rfl (Or.inr rfl) (pe_dnewN P w))
  (pss_cons (ps_for PassesOwn.never rfl (x_seq K (pv 0)) (pg_name (i := 4) sc_told_counts.nd rfl (Or.inl rfl)) (pss_one (ps_for PassesOwn.never rfl (x_seq K (pv 4)) (pg_name (i := 5) sc_told_counts.nd rfl (Or.inl rfl)) (pss_one (ps_if (PW.pt (pw_and (pt_cmpR (x_eq K (by exact hr.units)) (pe_ix (x_ix K) (pv 5) pe_int (fun _ _ => rfl)) (pv 1) (nomark _)) (pw_and1 (PW.pt (pw_or (pt_cmpR op_isN1 (pv 2) pe_non (nomark _)) (pw_or1 (pt_cmpR (x_eq K (by exact hr.units)) (pe_ix (x_ix K) (pv 5) pe_int (fun _ _ => rfl)) (pv 2) (nomark _)))))))) (pss_one (ps_asg (pe_op (x_add K) (pe_getN P w K (by exact hr.units) (pv 3) (pv 5) pe_int ⟨rfl, rfl, rfl, rfl⟩) pe_int) (pg_sub (pv 3) (pv 5) (x_setN P w K (by exact hr.units)) (fun _ => rfl)))) pss_nil)))))
  (pss_one (ps_ret (pe_callTy (x_tup K) (by rfl) T.b_tuple (by decide +kernel) (pa_cons (pe_lc (own := [("entry", 5)]) (g := gName 5) (tt := tYes) rfl sc_told_counts.nd (x_seq K (pe_callB (x_sortN P w K (by exact hr.units)) (by rfl) T.b_sorted (by decide +kernel) (pa_cons (pv 3) pa_nil))) (blkOk_by (own := [("entry", 5)]) (N := N_told_counts) (sc := defScope s_told_counts) (by decide +kernel)) (fun _ _ _ _ _ => (pg_name (i := 5) sc_told_counts.nd rfl (Or.inl rfl))) (fun _ _ _ _ _ => pts_nil) (fun _ _ _ _ _ => (pe_tup (pa_cons (pv 5) (pa_cons (pe_ix (x_ixN P w K (by exact hr.units)) (pv 3) (pv 5) (fun _ _ => rfl)) pa_nil))))) pa_nil)))))), ?_⟩
    show WS _ _ [.val (.lst (cs.map copyD)), .val (.str nm), .val (keyO k), .un, .un, .un] n _
    have hl : ∀ i, (toldOf (cs.take i) nm k).length ≤ 10000 := fun i => told_len hcs (fun es h => (hes es h).1) i nm k
    walk_at "ws1"
    refine ws_dnew (i := 3) (Nat.le_of_ble_eq_true rfl) ?_
    walk_at "ws1"
    refine ws_for ?_
    walk_at "we1"
    walk_at "we1"
    refine ⟨_, rfl, fun i m ρ => m = n ∧ ∃ x4 x5, ρ = [.val (.lst (cs.map copyD)), .val (.str nm), .val (keyO k), .dic (kvOf (toldOf (cs.take i) nm k)), x4, x5], ⟨rfl, _, _, rfl⟩, ?_, ?_⟩
    · rintro i m ρ1 d hd ⟨rfl, x4, x5, rfl⟩
      obtain ⟨es, he, rfl, hm, tk⟩ := map_at hd
      walk_at "wg1"
      refine ws_for ?_
      walk_at "we1"
      walk_at "we1"
      refine ⟨_, rfl, fun j m2 ρ => m2 = m ∧ ∃ x5, ρ = [.val (.lst (cs.map copyD)), .val (.str nm), .val (keyO k), .dic (kvOf (toldOf (cs.take i) nm k ++ (es.take j).filter (hits nm k))), .val (copyD es), x5], ⟨rfl, x5, ?_⟩, ?_, ?_⟩
      · rw [List.take_zero, List.filter_nil, List.append_nil]; rfl
      · rintro j m2 ρ2 d2 hd2 ⟨rfl, x5', rfl⟩
        obtain ⟨e, hee, rfl, hme, tke⟩ := map_at hd2
        have oke := (hes es hm).2 e hme
        have hE : (toldOf (cs.take i) nm k ++ (es.take j).filter (hits nm k)).length ≤ 16000 := by
          rw [List.length_append]
          have h1 := hl i
          have h2 : ((es.take j).filter (hits nm k)).length ≤ es.length := Nat.le_trans (List.length_filter_le _ _) (by rw [List.length_take]; omega)
          have := (hes es hm).1
          omega
        have keep : hits nm k e = false → (es.take (j + 1)).filter (hits nm k) = (es.take j).filter (hits nm k) := fun h => by
          rw [tke, List.filter_append, List.filter_cons_of_neg (by rw [h]; decide), List.filter_nil, List.append_nil]
        have put : hits nm k e = true → (es.take (j + 1)).filter (hits nm k) = (es.take j).filter (hits nm k) ++ [e] := fun h => by
          rw [tke, List.filter_append, List.filter_cons_of_pos h, List.filter_nil]
        walk_at "go"
        generalize toldOf (cs.take i) nm k = E0 at hE
        refine ws_if (WT.mono (Φ := fun m3 b => m3 = m2 ∧ b = hits nm k e) ?_ fun m3 b ⟨e1, e2⟩ => ?_)
        · skip
          walk_at "go"
          refine r2_eqD (ok_nm oke) fn ?_
          walk_at "go"
          rw [eq_str]
          refine dec2 (fun h1 => ?_) (fun h1 => ?_)
          · skip
            cases k with
            | none =>
              walk_at "go"
              refine itT rfl ?_
              exact ⟨rfl, by simp [hits, h1]⟩
            | some ks =>
              walk_at "go"
              refine itF rfl ?_
              walk_at "go"
              refine r2_eqD (ok_ks oke) fk ?_
              walk_at "go"
              refine ⟨rfl, ?_⟩
              show eqD (.tup (e.ks.map .int)) (.tup (ks.map .int)) = _
              rw [eq_tupI]; simp [hits, h1]
          · exact ⟨rfl, by simp [hits, h1]⟩
        · skip
          subst e1; subst e2
          refine boo2 (fun hb => ?_) (fun hb => ?_)
          · refine ws_dput (i := 3) rfl ?_ ?_
            · unfold kvOf; rw [List.length_map]; exact Nat.lt_of_le_of_lt (firsts_le _) (by omega)
            walk_at "go"
            refine ⟨oke.2, ?_⟩
            rw [get_kv]
            walk_at "go"
            refine ⟨oke.2, rfl, SD.val (entD e), ?_⟩
            rw [put hb, ← List.append_assoc]
            show _ = [_, _, _, SD.dic (kvOf (_ ++ [e])), _, _]
            rw [← put_kv]; rfl
          · walk_at "ws1"
            refine ⟨rfl, SD.val (entD e), ?_⟩
            rw [keep hb]; rfl
      · rintro m2 ρ2 ⟨rfl, x5', rfl⟩
        refine ⟨rfl, .val (copyD es), x5', ?_⟩
        have e1 : es.take (es.map entD).length = es := by rw [List.length_map, List.take_length]
        rw [e1]
        have e2 : toldOf (cs.take (i + 1)) nm k = toldOf (cs.take i) nm k ++ es.filter (hits nm k) := by
          simp only [toldOf, tk, List.map_append, List.flatten_append, List.map_cons, List.map_nil, List.flatten_cons, List.flatten_nil, List.append_nil]
        rw [e2]
    · rintro m ρ1 ⟨rfl, x4, x5, rfl⟩
      have e : cs.take (cs.map copyD).length = cs := by rw [List.length_map, List.take_length]
      have hE := hl cs.length
      rw [List.take_length] at hE
      rw [e]
      have hok : ∀ x ∈ firsts (toldOf cs nm k), okE x := fun x hx => by
        have hx' := (mem_firsts _ x).mp hx
        unfold toldOf at hx'
        obtain ⟨l, hl1, hl2⟩ := List.mem_flatten.mp hx'
        obtain ⟨es, he1, rfl⟩ := List.mem_map.mp hl1
        exact (hes es he1).2 x (List.mem_filter.mp hl2).1
      unfold countedD at kk
      generalize toldOf cs nm k = E at hE kk hok
      have hf : (firsts E).length ≤ 10000 := Nat.le_trans (firsts_le E) hE
      walk_at "ws1"
      refine we_cb (wa_cons (wf_we (wf_map (fun d => pairD (d, match lookD (kvOf E) d with | some (.int i) => i | _ => 0)) (fun _ => true) ?_)))
      refine wi_seq (wf_we (wf_dsort (i := 3) rfl ?_ ?_ ?_ ?_ ?_ ?_))
      · rw [kv_keys]; exact plain_ents _
      · rw [kv_keys]; exact alike_E _
      · rw [kv_keys]; exact sortable_E _
      · unfold kvOf; rw [List.length_map]; rw [sizeLine_eq]; omega
      · intro d hd
        rw [kv_keys] at hd
        obtain ⟨x, _, rfl⟩ := List.mem_map.mp hd
        exact Nat.le_trans (depth_E x) (by decide)
      rw [kv_keys, sortD_ent]
      refine ⟨_, rfl, ?_, fun d hd m2 => ?_, ?_⟩
      · rw [List.length_map, (sortE_perm _).length_eq]; omega
      · obtain ⟨x, hx, rfl⟩ := List.mem_map.mp hd
        have hx1 := (sortE_perm _).mem_iff.mp hx
        have lk : lookD (kvOf E) (entD x) = some (.int (E.count x : Nat)) := by rw [look_kv, if_pos ((mem_firsts E x).mp hx1)]
        walk_at "go"
        refine ⟨rfl, rfl, fun _ => ?_⟩
        walk_at "go"
        refine ⟨(hok x hx1).2, _, lk, ?_⟩
        walk_at "go"
        refine ⟨Nat.le_of_ble_eq_true rfl, rfl, ?_⟩
        rw [lk]
      rw [filt_all]
      refine wa_nil (rc_tup rfl ?_)
      have e3 : ((sortE (firsts E)).map entD).map (fun d => pairD (d, match lookD (kvOf E) d with | some (.int i) => i | _ => 0)) = (sortE (firsts E)).map fun e => pairD (entD e, (E.count e : Nat)) := by
        rw [List.map_map]
        refine List.map_congr_left fun x hx => ?_
        have hx1 := (sortE_perm _).mem_iff.mp hx
        show pairD (entD x, match lookD (kvOf E) (entD x) with | some (.int i) => i | _ => 0) = _
        rw [look_kv, if_pos ((mem_firsts E x).mp hx1)]
      rw [e3]
      exact kk
def gK (us ws : List Value) : List Value := match us, ws with | [a, b], [c] => [a, b, c] | _, _ => []
def gKV (us ws : List V) : List V := match us, ws with | [a, b], [c] => [a, b, c] | _, _ => []
theorem told_kb {f : Addr} {fd : FuncData} (F : FunD K "told_counts" "told_counts" (defArgs s_told_counts) (defBody s_told_counts) (defScope s_told_counts) [.non] [] f fd) : KBinds K fd ["copies", "name", "key"] ["key"] gK gKV := by
  refine ⟨fun s us ws X hl => ?_, fun {vs us zs ws} r1 r2 => ?_⟩
  · obtain ⟨oc, od, dV, kV, doc, pm, an, cdv, ct, osl, rfl, lk, hcd, hD, _⟩ := F.ex
    rcases hD with ⟨e, _⟩ | ⟨_, T, o, its, m, rfl, lT, oT, rT⟩
    · cases e
    · cases rT with
      | cons r0 rT =>
        cases rT
        unfold gK at hl ⊢
        split at hl
        · rename_i a b c
          refine BindsTo.of_looks fun M => ?_
          have e : ∃ k, bindArgs (PySem.W.fnOf "told_counts" "told_counts" (defArgs s_told_counts) (defBody s_told_counts) (defScope s_told_counts) (.ref T) kV doc pm an cdv ct) ⟨[a, b], (["key"] : List Str).zip [c]⟩ = seqItems? (.ref T) >>= k ∧ ∀ d : Value, k (some #[d]) = pure ((["copies", "name", "key"] : List Str).zip [a, b, c]) := ⟨_, rfl, fun _ => rfl⟩
          obtain ⟨k, e1, e2⟩ := e
          rw [e1]
          exact looks_items X lT oT (.of_pure (e2 _))
        · simp at hl
  · unfold gK gKV
    cases r1 with
    | nil => cases r2 <;> exact .nil
    | cons a1 r1 =>
      cases r1 with
      | nil => cases r2 <;> exact .nil
      | cons a2 r1 =>
        cases r1 with
        | nil =>
          cases r2 with
          | nil => exact .nil
          | cons a3 r2 =>
            cases r2 with
            | nil => exact .cons a1 (.cons a2 (.cons a3 .nil))
            | cons a4 r2 => exact .nil
        | cons a4 r1 => exact .nil
theorem told_b {f : Addr} {fd : FuncData} (F : FunD K "told_counts" "told_counts" (defArgs s_told_counts) (defBody s_told_counts) (defScope s_told_counts) [.non] [] f fd) : ∃ ds, Vals [.non] ds ∧ Binds K fd ["copies", "name", "key"] ds :=
  F.binds1 2 0 (by simp) rfl fun T kV doc pm an cdv ct us its h1 h2 => match us, its, h1, h2 with | [a, b], [c], _, _ => ⟨_, rfl, rfl⟩
end
end Toy
namespace L3
open PySem L2
section
variable {c : Ctx} {ρ : List SD} {n : Nat} {as tk : TA} {Φ : Nat → D → Prop}
theorem we_ty {T : String} (k : Φ n (.ty T)) : WE c (tC (.ty T)) ρ n Φ := fun P L σ H Q E q => q _ _ n H (Same.refl _) E.bag (.ty T) k
theorem we_callK {S : Spec} {gV : List V → List V → List V} {XE : XK} (h : WA c as ρ n fun n1 ds => WA c tk ρ n1 fun n2 es => ∃ fs, (∀ H vs zs, RpAll c.K H vs ds → RpAll c.K H zs es → RpAll c.K H (gV vs zs) fs) ∧ S c.bag n2 fs Φ) : WE c (tCallK (spD c.K S) gV XE as tk) ρ n Φ := fun P L σ H Q E q => by
  refine h P L σ H _ E fun vs ds n1 H1 s1 j1 r1 h1 => ?_
  have E1 := E.step s1 j1
  refine h1 P L σ H1 _ E1 fun zs es n2 H2 s2 j2 r2 ⟨fs, g, k⟩ => ?_
  have E2 := E1.step s2 j2
  refine ⟨L ++ c.O, c.bag, n2, fs, Φ, fun b q hb => ⟨j2 b q hb, List.mem_append_right _ (E.bO b q hb).1, List.mem_append_right _ (E.bO b q hb).2.1, (E.bO b q hb).2.2⟩, E2.alLO, g _ _ _ (E1.ups (n' := n1) (H2 := H) s2 r1) r2, k, fun v d n3 H3 s3 j3 r3 k3 => ?_⟩
  exact q v d n3 H3 ((s1.trans s2).trans s3) j3 r3 k3
/-- a def as its callers see it -/
structure Dn (P : Program) (w : World) (K : PySem.W.Frag) (mg : Str → Option Value) (base : Heap) (x : Str) (k : Nat) (ps : List Str) (dv : List V) (dw : List Value) (S : L3.Spec) where
  f : Addr
  fd : FuncData
  G : FnOk P w K mg base CX0 k f fd ps (spD K S)
  m : mg x = some (.ref f)
  k : PySem.W.keepIn K (.ref f) = true
  b : Binds K fd ps dw
  v : Vals dv dw
theorem cut_to {xs : List D} {i : Nat} (h : i ≤ xs.length) : cutD xs none (some (i : Int)) = xs.take i := by
  unfold cutD
  have e : HT.sIx xs.length xs.length (some (i : Int)) = i := by rw [HT.sIx_nat]; omega
  rw [e]
  have e0 : HT.sIx xs.length 0 none = 0 := rfl
  rw [e0]; simp
theorem cut_map {α : Type} (f : α → D) (xs : List α) (lo hi : Option Int) : ∃ ys : List α, cutD (xs.map f) lo hi = ys.map f ∧ ys.Sublist xs := by
  unfold cutD
  rw [← List.map_drop, ← List.map_take]
  exact ⟨_, rfl, (List.take_sublist _ _).trans (List.drop_sublist _ _)⟩
end
end L3
namespace Toy
open PySem L2 L3
local macro_rules | `(tactic| walk_at "we1") => `(tactic| first
  | ((with_reducible refine' we_var ?hv ?_); (case hv => rfl))
  | (with_reducible refine we_int ?_)
  | (with_reducible refine we_str ?_)
  | (with_reducible refine we_bl ?_)
  | (with_reducible refine we_non ?_)
  | ((with_reducible refine' we_dix ?hv ?_); (case hv => rfl))
  | (with_reducible refine we_op ?_)
  | ((with_reducible refine' we_dget ?hv ?_); (case hv => rfl))
  | (with_reducible refine we_count ?_)
  | (with_reducible refine we_cb ?_)
  | (with_reducible refine we_call0 ?_)
  | (with_reducible refine we_tup ?_)
  | (with_reducible refine we_lst ?_)
  | (with_reducible refine we_if ?_)
  | (with_reducible refine we_not ?_)
  | (with_reducible refine we_and ?_)
  | (with_reducible refine we_or ?_)
  | (with_reducible refine we_isN ?_)
  | (with_reducible refine we_notN ?_)
  | (with_reducible refine we_sl ?_)
  | (with_reducible refine wa_cons ?_)
  | (with_reducible refine wa_nil ?_)
  | (with_reducible refine wt_test ?_)
  | (with_reducible refine wt_B ?_)
  | (with_reducible refine wt_and ?_)
  | (with_reducible refine wt_or ?_)
  | (with_reducible refine wt_not ?_)
  | (with_reducible refine wt_yes ?_)
  | (with_reducible refine wo_none ?_)
  | (with_reducible refine wo_some ?_)
  | ((with_reducible refine' r2_ix ?hx ?_); (case hx => rfl))
  | (with_reducible refine r2_isN ?_)
  | (with_reducible refine r2_notN ?_)
  | (with_reducible refine r2_lt ?_)
  | (with_reducible refine r2_le ?_)
  | (with_reducible refine r2_gt ?_)
  | (with_reducible refine r2_ge ?_)
  | (with_reducible refine r2_sub ?_)
  | (with_reducible refine r2_addI ?_)
  | (with_reducible refine r2_eqI ?_)
  | (with_reducible refine r2_neI ?_)
  | (with_reducible refine rc_int ?_)
  | (with_reducible refine rc_abs ?_)
  | ((with_reducible refine' rc_len ?hl ?_); (case hl => rfl))
  | (with_reducible refine wi_seq ?_)
  | (with_reducible refine wi_rng1 ?_)
  | (with_reducible refine wi_rng2 ?_)
  | (with_reducible refine wi_enum ?_)
  | (refine ⟨_, rfl, ?_⟩))
local macro_rules | `(tactic| walk_at "ws1") => `(tactic| first
  | (with_reducible refine ws_seq ?_)
  | (with_reducible refine ws_set ?_)
  | (with_reducible refine ws_ret ?_)
  | (with_reducible refine ws_if ?_)
  | (with_reducible refine ws_next ?_)
  | (with_reducible refine ws_asg ?_))
local macro_rules | `(tactic| walk_at "wg1") => `(tactic| first
  | (with_reducible refine wg_name (rw_name (by decide)) ?_)
  | (with_reducible refine wg_name (fun _ _ => trivial) ?_)
  | ((with_reducible refine' wg_tup ?hl ?_); (case hl => rfl))
  | (with_reducible refine wgs_cons rw_trans ?_)
  | (with_reducible refine wgs_nil rw_refl ?_)
  | (with_reducible refine wgs_cons (fun _ _ _ _ _ => trivial) ?_)
  | (with_reducible refine wgs_nil (fun _ => trivial) ?_))
local macro_rules | `(tactic| walk_at "go") => `(tactic| repeat' (first | walk_at "we1" | walk_at "wg1"))
section
variable {P : Program} {w : World} {K : PySem.W.Frag} {mg : Str → Option Value} {base : Heap}
/-! the counted -/
def spCounted : L3.Spec := fun bag n ds Φ => ∃ E : List Ent, ds = [.lst (E.map entD)] ∧ E.length ≤ 10000 ∧ (∀ e ∈ E, okE e) ∧ Φ n (.lst (countedD E))
def cntF (E : List D) : D → D
  | .tup [_, x] => .tup [x, .int ((E.countP fun z => eqD z x : Nat) : Int)]
  | _ => .non
def newP (l : List D) : D → Bool
  | .tup [.int i, x] => !inD x (l.take i.toNat)
  | _ => false
theorem enum_early (E : List D) (cnt : Ent → Int) (hc : ∀ e, cntF E (.tup [.int 0, entD e]) = pairD (entD e, cnt e)) : ∀ (l pre : List Ent) (al : List D), al = (pre ++ l).map entD →
    ((enumD (pre.length : Nat) (l.map entD)).filter (newP al)).map (cntF E) = (earliest pre l).map fun e => pairD (entD e, cnt e)
  | [], pre, al, _ => rfl
  | x :: l, pre, al, h => by
    have ih := enum_early E cnt hc l (pre ++ [x]) al (by rw [h]; simp)
    have e1 : ((pre ++ [x]).length : Int) = ((pre.length : Nat) : Int) + 1 := by simp
    rw [e1] at ih
    show (List.filter (newP al) (.tup [.int (pre.length : Nat), entD x] :: enumD ((pre.length : Nat) + 1) (l.map entD))).map (cntF E) = _
    have tk : al.take (((pre.length : Nat) : Int)).toNat = pre.map entD := by
      rw [h, Int.toNat_natCast, List.map_append, List.take_append_of_le_length (by simp)]
      exact List.take_of_length_le (by simp)
    have hp : newP al (.tup [.int (pre.length : Nat), entD x]) = !decide (x ∈ pre) := by
      show (!inD (entD x) (al.take (((pre.length : Nat) : Int)).toNat)) = _
      rw [tk, inD_ent]
    unfold earliest
    by_cases q : x ∈ pre
    · rw [if_pos q, List.filter_cons_of_neg (by rw [hp]; simpa using q)]
      exact ih
    · rw [if_neg q, List.filter_cons_of_pos (by rw [hp]; simpa using q), List.map_cons, List.map_cons, ih]
      congr 1
      exact hc x
abbrev s_law_counted : Stmt := top 8
abbrev N_law_counted : List Str := ["entries", "ordered", "place", "entry"]
theorem sc_law_counted : FnScope N_law_counted ["entries"] (defScope s_law_counted) := ⟨rfl, rfl, rfl, by decide +kernel, rfl, by decide +kernel, by decide +kernel⟩

theorem ok_counted {f : Addr} {fd : FuncData} (F : Fun K "_law_counted" "_law_counted" s_law_counted f fd) (T : Txt mg) : FnOk P w K mg base CX0 1 f fd ["entries"] (spD K spCounted) := by
  refine fn_D F sc_law_counted (fun bag n ds Φ h => ?_) (fun cdv A outer s H E O bag n ds Φ hr h => ?_)
  · obtain ⟨E, e, _⟩ := h
    rw [e]; rfl
  · obtain ⟨E, e, hE, hok, kk⟩ := h
    subst e
    refine ⟨_, (pss_cons (ps_set (i := 1) sc_law_counted.nd rfl (Or.inr rfl) (pe_callB (x_sorted K (by exact hr.units)) (by rfl) T.b_sorted (by decide +kernel) (pa_cons (pv 0) pa_nil)))
  (pss_one (ps_ret (pe_lc (own := [("place", 2), ("entry", 3)]) (g := gTup K 2 (gCons (gName 2) (gCons (gName 3) gNil))) rfl sc_law_counted.nd (x_enum K (by rfl) T.b_enumerate (pa_cons (pv 1) pa_nil)) (blkOk_by (own := [("place", 2), ("entry", 3)]) (N := N_law_counted) (sc := defScope s_law_counted) (by decide +kernel)) (fun _ _ _ _ _ => (x_tgt K (pg_tup (by rfl) (pgs_cons (pg_name (i := 2) sc_law_counted.nd rfl (Or.inl rfl)) (pgs_cons (pg_name (i := 3) sc_law_counted.nd rfl (Or.inl rfl)) pgs_nil))))) (fun _ _ _ _ _ => (pts_one (pt_cmpR (x_notIn K (by exact hu65 hr)) (pv 3) (pe_slice (x_sl K) (pv 1) po_none (po_some (pv 2))) (by with_unfolding_all rfl)))) (fun _ _ _ _ _ => (pe_tup (pa_cons (pv 3) (pa_cons (x_bm K (id := "list.count") (pe_bm PySem.F.plainAttrs_list PySem.F.slot_list_count PySem.F.type_list_count (x_count K (by exact hu65 hr)) (pv 0) (pa_cons (pv 3) pa_nil))) pa_nil)))))))), ?_⟩
    show WS _ _ [.val (.lst (E.map entD)), .un, .un, .un] n _
    walk_at "ws1"
    walk_at "ws1"
    walk_at "go"
    have hp := sortE_perm E
    refine rc_sort (plain_ents E) (alike_E E) (sortable_E E) (by rw [List.length_map, sizeLine_eq]; omega) (fun d hd => ?_) ?_
    · obtain ⟨x, _, rfl⟩ := List.mem_map.mp hd
      exact Nat.le_trans (depth_E x) (by decide)
    rw [sortD_ent]
    walk_at "ws1"
    refine wf_we (wf_map (cntF (E.map entD)) (newP ((sortE E).map entD)) ?_)
    walk_at "we1"
    walk_at "we1"
    walk_at "we1"
    walk_at "we1"
    refine ⟨_, rfl, ?_⟩
    refine ⟨?_, fun d hd m => ?_, ?_⟩
    · rw [enumD_len, List.length_map, hp.length_eq]; omega
    · obtain ⟨i, hi⟩ := List.getElem?_of_mem hd
      obtain ⟨e, he, rfl⟩ := enumD_get hi
      obtain ⟨x, hx, rfl, hm, _⟩ := map_at he
      have oke := hok x (hp.mem_iff.mp hm)
      have hil : i ≤ ((sortE E).map entD).length := Nat.le_of_lt (List.getElem?_eq_some_iff.mp he).1
      have hz : (0 : Int) + (i : Nat) = (i : Nat) := by omega
      rw [hz]
      walk_at "go"
      rw [cut_to hil]
      have fpre : fit (.lst (((sortE E).map entD).take i)) = true := by
        rw [← List.map_take]
        exact fit_ents fun e he => hok e (hp.mem_iff.mp (List.mem_of_mem_take he))
      refine r2_notIn rfl oke.1 fpre ?_
      refine ⟨_, rfl, rfl, ?_, fun _ => ?_⟩
      · show _ = !inD (entD x) (((sortE E).map entD).take (((i : Nat) : Int)).toNat)
        rw [Int.toNat_natCast]
      walk_at "go"
      refine ⟨oke.1, fit_ents hok, ?_⟩
      walk_at "go"
      exact ⟨Nat.le_of_ble_eq_true rfl, rfl, rfl⟩
    · have e := enum_early (E.map entD) (fun e => (E.count e : Nat)) (fun e => by
        show D.tup [entD e, .int (((E.map entD).countP fun z => eqD z (entD e) : Nat) : Int)] = _
        rw [count_ent]) (sortE E) [] _ rfl
      have e0 : (((([] : List Ent).length : Nat)) : Int) = 0 := rfl
      rw [e0] at e
      rw [List.nil_append] at e
      rw [e, earliest_sort]
      exact kk
/-! whole numbers, entries -/
def spWhole : L3.Spec := fun bag n ds Φ => ∃ i : Int, ds = [.int i] ∧ Φ n (.bl true)
abbrev s_law_is_whole : Stmt := top 6
abbrev N_law_is_whole : List Str := ["thing"]
theorem sc_law_is_whole : FnScope N_law_is_whole ["thing"] (defScope s_law_is_whole) := ⟨rfl, rfl, rfl, by decide +kernel, rfl, by decide +kernel, by decide +kernel⟩

theorem ok_whole {f : Addr} {fd : FuncData} (F : Fun K "_law_is_whole" "_law_is_whole" s_law_is_whole f fd) (T : Txt mg) : FnOk P w K mg base CX0 1 f fd ["thing"] (spD K spWhole) := by
  refine fn_D F sc_law_is_whole (fun bag n ds Φ h => ?_) (fun cdv A outer s H E O bag n ds Φ hr h => ?_)
  · obtain ⟨E, e, _⟩ := h
    rw [e]; rfl
  · obtain ⟨i, e, kk⟩ := h
    subst e
    refine ⟨_, (pss_one (ps_ret (pe_and (pe_callB (x_isi K) (by rfl) T.b_isinstance (by decide +kernel) (pa_cons (pv 0) (pa_cons (pe_bltn (v := .ty "int") (by rfl) T.b_int (by decide +kernel) rfl) pa_nil))) (pe_one (pe_not (pe_callB (x_isi K) (by rfl) T.b_isinstance (by decide +kernel) (pa_cons (pv 0) (pa_cons (pe_bltn (v := .ty "bool") (by rfl) T.b_bool (by decide +kernel) rfl) pa_nil)))))))), ?_⟩
    show WS _ _ [.val (.int i)] n _
    walk_at "ws1"
    walk_at "go"
    refine we_ty ?_
    walk_at "go"
    refine rc_isi (b := true) rfl (by decide +kernel) ?_
    refine ⟨_, rfl, itT rfl ?_⟩
    walk_at "go"
    refine we_ty ?_
    walk_at "go"
    refine rc_isi (b := false) rfl (by decide +kernel) ?_
    exact ⟨_, rfl, kk⟩
def spEntry : L3.Spec := fun bag n ds Φ => ∃ e : Ent, ds = [entD e] ∧ e.ks.length ≤ 1000 ∧ Φ n (.bl true)
abbrev s_law_is_entry : Stmt := top 7
abbrev N_law_is_entry : List Str := ["thing", "number"]
theorem sc_law_is_entry : FnScope N_law_is_entry ["thing"] (defScope s_law_is_entry) := ⟨rfl, rfl, rfl, by decide +kernel, rfl, by decide +kernel, by decide +kernel⟩

theorem ok_entry {f : Addr} {fd : FuncData} (F : Fun K "_law_is_entry" "_law_is_entry" s_law_is_entry f fd) (T : Txt mg) (D_law_is_whole : Dn P w K mg base "_law_is_whole" 1 ["thing"] [] [] spWhole) : FnOk P w K mg base CX0 2 f fd ["thing"] (spD K spEntry) := by
  refine fn_D F sc_law_is_entry (fun bag n ds Φ h => ?_) (fun cdv A outer s H E O bag n ds Φ hr h => ?_)
  · obtain ⟨E, e, _⟩ := h
    rw [e]; rfl
  · obtain ⟨e, e1, hl, kk⟩ := h
    subst e1
    refine ⟨_, (pss_cons (ps_if (PW.pt (pw_or (pt_not (pt_val (pe_callB (x_isi K) (by rfl) T.b_isinstance (by decide +kernel) (pa_cons (pv 0) (pa_cons (pe_bltn (v := .ty "tuple") (by rfl) T.b_tuple (by decide +kernel) rfl) pa_nil))))) (pw_or (pt_cmpR (x_ne K (by exact hr.units)) (pe_callB (x_len K) (by rfl) T.b_len (by decide +kernel) (pa_cons (pv 0) pa_nil)) pe_int (nomark _)) (pw_or1 (pt_not (pt_val (pe_callB (x_isi K) (by rfl) T.b_isinstance (by decide +kernel) (pa_cons (pe_ix (x_ix K) (pv 0) pe_int (fun _ _ => rfl)) (pa_cons (pe_bltn (v := .ty "str") (by rfl) T.b_str (by decide +kernel) rfl) pa_nil))))))))) (pss_one (ps_ret pe_bl)) pss_nil)
  (pss_cons (ps_if (PW.pt (pw_or (pt_not (pt_val (pe_callB (x_isi K) (by rfl) T.b_isinstance (by decide +kernel) (pa_cons (pe_ix (x_ix K) (pv 0) pe_int (fun _ _ => rfl)) (pa_cons (pe_bltn (v := .ty "tuple") (by rfl) T.b_tuple (by decide +kernel) rfl) pa_nil))))) (pw_or1 (pt_not (pt_val (pe_call D_law_is_whole.G (hr.mono (by decide)) (by rfl) D_law_is_whole.m D_law_is_whole.k D_law_is_whole.b D_law_is_whole.v pass0 (pa_cons (pe_ix (x_ix K) (pv 0) pe_int (fun _ _ => rfl)) pa_nil))))))) (pss_one (ps_ret pe_bl)) pss_nil)
  (pss_one (ps_ret (pe_callB (x_all K) (by rfl) T.b_all (by decide +kernel) (pa_cons (pe_lc (own := [("number", 1)]) (g := gName 1) (tt := tYes) rfl sc_law_is_entry.nd (x_seq K (pe_ix (x_ix K) (pv 0) pe_int (fun _ _ => rfl))) (blkOk_by (own := [("number", 1)]) (N := N_law_is_entry) (sc := defScope s_law_is_entry) (by decide +kernel)) (fun _ _ _ _ _ => (pg_name (i := 1) sc_law_is_entry.nd rfl (Or.inl rfl))) (fun _ _ _ _ _ => pts_nil) (fun _ _ _ _ _ => (pe_call D_law_is_whole.G (hr.mono (by decide)) (by rfl) D_law_is_whole.m D_law_is_whole.k D_law_is_whole.b D_law_is_whole.v pass0 (pa_cons (pv 1) pa_nil)))) pa_nil)))))), ?_⟩
    show WS _ _ [.val (entD e), .un] n _
    walk_at "ws1"
    walk_at "ws1"
    walk_at "go"
    refine we_ty ?_
    walk_at "go"
    refine rc_isi (b := true) rfl (by decide +kernel) ?_
    refine ⟨_, rfl, itF rfl ?_⟩
    walk_at "go"
    refine itF rfl ?_
    walk_at "go"
    refine we_ty ?_
    walk_at "go"
    refine rc_isi (b := true) rfl (by decide +kernel) ?_
    refine ⟨_, rfl, itF rfl ?_⟩
    walk_at "ws1"
    walk_at "ws1"
    walk_at "ws1"
    walk_at "go"
    refine we_ty ?_
    walk_at "go"
    refine rc_isi (b := true) rfl (by decide +kernel) ?_
    refine ⟨_, rfl, itF rfl ?_⟩
    walk_at "go"
    refine itF rfl ?_
    walk_at "ws1"
    walk_at "ws1"
    refine we_cb (wa_cons (wf_we (wf_map (fun _ => .bl true) (fun _ => true) ?_)))
    walk_at "go"
    refine ⟨?_, fun d hd m => ?_, ?_⟩
    · rw [List.length_map]; omega
    · obtain ⟨i, _, rfl⟩ := List.mem_map.mp hd
      walk_at "go"
      refine ⟨rfl, rfl, fun _ => ?_⟩
      walk_at "go"
      exact ⟨rfl, rfl⟩
    rw [filt_all]
    refine wa_nil ?_
    have e1 : (e.ks.map D.int).map (fun _ => D.bl true) = (e.ks.map fun _ => true).map D.bl := by rw [List.map_map, List.map_map]; rfl
    rw [e1]
    refine rc_all ?_
    have e2 : (e.ks.map fun _ => true).all id = true := by simp
    rw [e2]
    exact kk
/-! a marked copy -/
theorem plain_ints : ∀ ks : List Int, plainAll (ks.map D.int) = true
  | [] => rfl
  | k :: ks => by show (true && plainAll (ks.map D.int)) = true; rw [plain_ints ks]; rfl
theorem can_ints : ∀ ks : List Int, PyData.canLayAll0 (dpyAll (ks.map D.int)) = true
  | [] => rfl
  | k :: ks => by show (true && PyData.canLayAll0 (dpyAll (ks.map D.int))) = true; rw [can_ints ks]; rfl
theorem key_ints : ∀ ks : List Int, nkOkAll (ks.map D.int) = true
  | [] => rfl
  | k :: ks => by show (true && nkOkAll (ks.map D.int)) = true; rw [key_ints ks]; rfl
theorem dep_ints : ∀ ks : List Int, PyData.depthAll (dpyAll (ks.map D.int)) = 0
  | [] => rfl
  | k :: ks => by show max 0 (PyData.depthAll (dpyAll (ks.map D.int))) = 0; rw [dep_ints ks]; rfl
theorem ndep_ints : ∀ ks : List Int, NestedKey.depthAll (nkAll (ks.map D.int)) = 0
  | [] => rfl
  | k :: ks => by show max 0 (NestedKey.depthAll (nkAll (ks.map D.int))) = 0; rw [ndep_ints ks]; rfl
theorem fit_ints (ks : List Int) : fit (.tup (ks.map D.int)) = true := by
  have h : fit (.tup (ks.map D.int)) = (plainAll (ks.map D.int) && (PyData.canLayAll0 (dpyAll (ks.map D.int)) && decide (PyData.depthAll (dpyAll (ks.map D.int)) + 1 ≤ 64))) := rfl
  rw [h, plain_ints, can_ints, dep_ints]; rfl
theorem ok_of {nm : Str} (hn : fit (.str nm) = true) (ks : List Int) (v : Int) : okE ⟨nm, ks, v⟩ := by
  refine ⟨(fit_list (ds := [.str nm, .tup (ks.map .int), .int v]) fun d hd => ?_).2, ?_⟩
  · rcases List.mem_cons.mp hd with e | hd
    · subst e; exact ⟨hn, Nat.zero_le _⟩
    · rcases List.mem_cons.mp hd with e | hd
      · subst e
        refine ⟨fit_ints ks, ?_⟩
        show PyData.depthAll (dpyAll (ks.map D.int)) + 1 ≤ 60
        rw [dep_ints]; decide
      · rcases List.mem_cons.mp hd with e | hd
        · subst e; exact ⟨rfl, Nat.zero_le _⟩
        · cases hd
  · have h : keyD (entD ⟨nm, ks, v⟩) = ((true && (nkOkAll (ks.map D.int) && (true && true))) && decide (max 0 (max (NestedKey.depthAll (nkAll (ks.map D.int)) + 1) (max 0 0)) + 1 ≤ 8)) := rfl
    rw [h, key_ints, ndep_ints]; rfl
theorem do_draw {b q : Addr} {k : Int} {n : Nat} {Φ : Nat → D → Prop} (h1 : 0 < k) (h2 : k < 2 ^ 200) (hn : n < 2 ^ 60) (h : ∀ r, 0 ≤ r → r < k → Φ (n + 1) (.int r)) : spDraw (some (b, q)) n [.adr b, .int k] Φ := ⟨b, q, k, rfl, rfl, h1, h2, hn, h⟩
theorem cdiv (i : Int) {k : Int} (h : 0 < k) (h2 : k.natAbs.log2 < 9000 := by decide +kernel) : CDivW i k := ⟨h, h2⟩
def spMarked : L3.Spec := fun bag n ds Φ => ∃ (b q : Addr) (nm : Str) (wd : Nat) (tw : Bool), bag = some (b, q) ∧ ds = [.adr b, .str nm, .int (wd : Nat), .bl tw] ∧ fit (.str nm) = true ∧ wd ≤ 2 ∧ (tw = true → 0 < wd) ∧ n + 20 < 2 ^ 60 ∧
  ∀ (es : List Ent) (n' : Nat), es.length ≤ 3 → (∀ e ∈ es, okE e ∧ e.ks.length ≤ 2) → n' ≤ n + 20 → Φ n' (copyD es)
def GdF (i : Nat) (F : List Ent) : Prop := F.length ≤ i ∧ ∀ e ∈ F, okE e ∧ e.ks.length ≤ 2
theorem GdF.add {i : Nat} {F : List Ent} (h : GdF i F) {e : Ent} (he : okE e) (hk : e.ks.length ≤ 2) : GdF (i + 1) (F ++ [e]) := ⟨by rw [List.length_append]; have := h.1; simp; omega, fun x hx => by
  rcases List.mem_append.mp hx with q | q
  · exact h.2 x q
  · rw [List.mem_singleton.mp q]; exact ⟨he, hk⟩⟩
theorem GdF.up {i j : Nat} {F : List Ent} (h : GdF i F) (hij : i ≤ j) : GdF j F := ⟨Nat.le_trans h.1 hij, h.2⟩
abbrev rF (b : Addr) (nm : Str) (wd : Nat) (tw : Bool) (F : List Ent) (x5 x6 : SD) : List SD := [.val (.adr b), .val (.str nm), .val (.int (wd : Nat)), .val (.bl tw), .own (F.map entD), x5, x6]
theorem app_ent (F : List Ent) (e : Ent) : F.map entD ++ [entD e] = (F ++ [e]).map entD := by rw [List.map_append]; rfl
theorem small_F {i : Nat} {F : List Ent} (h : GdF i F) (hi : i ≤ 1000) : (F.map entD).length < sizeLine := by rw [List.length_map, sizeLine_eq]; have := h.1; omega
abbrev s_law_marked_copy : Stmt := top 10
abbrev N_law_marked_copy : List Str := ["bag", "name", "wide", "twice", "found", "place", "key"]
theorem sc_law_marked_copy : FnScope N_law_marked_copy ["bag", "name", "wide", "twice"] (defScope s_law_marked_copy) := ⟨rfl, rfl, rfl, by decide +kernel, rfl, by decide +kernel, by decide +kernel⟩

theorem ok_marked {f : Addr} {fd : FuncData} (F : Fun K "_law_marked_copy" "_law_marked_copy" s_law_marked_copy f fd) (T : Txt mg) (D_law_draw : Dn P w K mg base "_law_draw" 1 ["bag", "limit"] [] [] spDraw) : FnOk P w K mg base CX0 2 f fd ["bag", "name", "wide", "twice"] (spD K spMarked) := by
  refine fn_D F sc_law_marked_copy (fun bag n ds Φ h => ?_) (fun cdv A outer s H E O bag n ds Φ hr h => ?_)
  · obtain ⟨b, q, nm, wd, tw, _, e, _⟩ := h
    rw [e]; rfl
  · obtain ⟨b, q, nm, wd, tw, e0, e, fn, hw, htw, hn, kk⟩ := h
    subst e; subst e0
    refine ⟨_, (pss_cons (ps_set (i := 4) sc_law_marked_copy.nd rfl (Or.inl rfl) (pe_lst pa_nil))
  (pss_cons (ps_if (pt_cmpR op_gt (pe_call D_law_draw.G (hr.mono (by decide)) (by rfl) D_law_draw.m D_law_draw.k D_law_draw.b D_law_draw.v pass0 (pa_cons (pv 0) (pa_cons pe_int pa_nil))) pe_int (nomark _)) (pss_one (ps_expr (pe_bm PySem.F.plainAttrs_list PySem.F.slot_list_append PySem.F.type_list_append mt_append (pv 4) (pa_cons (pe_tup (pa_cons pe_str (pa_cons (pe_tup pa_nil) (pa_cons (pe_call D_law_draw.G (hr.mono (by decide)) (by rfl) D_law_draw.m D_law_draw.k D_law_draw.b D_law_draw.v pass0 (pa_cons (pv 0) (pa_cons pe_int pa_nil))) pa_nil)))) pa_nil)))) pss_nil)
  (pss_cons (ps_if (pt_cmpR op_gt (pe_call D_law_draw.G (hr.mono (by decide)) (by rfl) D_law_draw.m D_law_draw.k D_law_draw.b D_law_draw.v pass0 (pa_cons (pv 0) (pa_cons pe_int pa_nil))) pe_int (nomark _)) (pss_cons (ps_set (i := 6) sc_law_marked_copy.nd rfl (Or.inl rfl) (pe_callTy (x_tup K) (by rfl) T.b_tuple (by decide +kernel) (pa_cons (pe_lc (own := [("place", 5)]) (g := gName 5) (tt := tYes) rfl sc_law_marked_copy.nd (pi_range1 (by rfl) T.b_range (pa_cons (pv 2) pa_nil)) (blkOk_by (own := [("place", 5)]) (N := N_law_marked_copy) (sc := defScope s_law_marked_copy) (by decide +kernel)) (fun _ _ _ _ _ => (pg_name (i := 5) sc_law_marked_copy.nd rfl (Or.inl rfl))) (fun _ _ _ _ _ => pts_nil) (fun _ _ _ _ _ => (pe_callTy call_intX (by rfl) T.b_int (by decide +kernel) (pa_cons (pe_op op_fdivW (pe_call D_law_draw.G (hr.mono (by decide)) (by rfl) D_law_draw.m D_law_draw.k D_law_draw.b D_law_draw.v pass0 (pa_cons (pv 0) (pa_cons pe_int pa_nil))) pe_int) pa_nil)))) pa_nil)))
  (pss_cons (ps_expr (pe_bm PySem.F.plainAttrs_list PySem.F.slot_list_append PySem.F.type_list_append mt_append (pv 4) (pa_cons (pe_tup (pa_cons (pv 1) (pa_cons (pv 6) (pa_cons (pe_callTy call_intX (by rfl) T.b_int (by decide +kernel) (pa_cons (pe_op op_fdivW (pe_call D_law_draw.G (hr.mono (by decide)) (by rfl) D_law_draw.m D_law_draw.k D_law_draw.b D_law_draw.v pass0 (pa_cons (pv 0) (pa_cons pe_int pa_nil))) pe_int) pa_nil)) pa_nil)))) pa_nil)))
  (pss_one (ps_if (PW.pt (pw_and (pt_val (pv 3)) (pw_and1 (pt_cmpR (x_eq K (by exact hr.units)) (pe_call D_law_draw.G (hr.mono (by decide)) (by rfl) D_law_draw.m D_law_draw.k D_law_draw.b D_law_draw.v pass0 (pa_cons (pv 0) (pa_cons pe_int pa_nil))) pe_int (nomark _))))) (pss_one (ps_expr (pe_bm PySem.F.plainAttrs_list PySem.F.slot_list_append PySem.F.type_list_append mt_append (pv 4) (pa_cons (pe_tup (pa_cons (pv 1) (pa_cons (pe_op (x_add K) (pe_tup (pa_cons (pe_op (x_add K) (pe_ix (x_ix K) (pv 6) pe_int (fun _ _ => rfl)) pe_int) pa_nil)) (pe_slice (x_sl K) (pv 6) (po_some pe_int) po_none)) (pa_cons (pe_callTy call_intX (by rfl) T.b_int (by decide +kernel) (pa_cons (pe_op op_fdivW (pe_call D_law_draw.G (hr.mono (by decide)) (by rfl) D_law_draw.m D_law_draw.k D_law_draw.b D_law_draw.v pass0 (pa_cons (pv 0) (pa_cons pe_int pa_nil))) pe_int) pa_nil)) pa_nil)))) pa_nil)))) pss_nil)))) pss_nil)
  (pss_one (ps_ret (pe_callTy (x_tup K) (by rfl) T.b_tuple (by decide +kernel) (pa_cons (pe_callB (x_sorted K (by exact hr.units)) (by rfl) T.b_sorted (by decide +kernel) (pa_cons (pv 4) pa_nil)) pa_nil))))))), ?_⟩
    show WS _ _ [.val (.adr b), .val (.str nm), .val (.int (wd : Nat)), .val (.bl tw), .un, .un, .un] n _
    have fa : fit (.str "a") = true := by decide +kernel
    walk_at "ws1"
    refine ws_own (i := 4) (Nat.le_of_ble_eq_true rfl) (wf_lst (wa_nil ⟨Nat.zero_le _, ?_⟩))
    walk_at "ws1"
    refine WS.mono (Ψ := { nx := fun n1 ρ1 => ∃ F x5 x6, ρ1 = rF b nm wd tw F x5 x6 ∧ GdF 1 F ∧ n1 ≤ n + 2, rt := fun _ _ => False }) ?_ ?_ (fun _ _ h => h.elim) (fun _ _ h => h.elim) (fun _ _ h => h.elim)
    · refine ws_if ?_
      walk_at "go"
      refine do_draw (by decide) (by decide) (by omega) fun r r0 rk => ?_
      walk_at "go"
      have g0 : GdF 0 ([] : List Ent) := ⟨Nat.le_refl _, fun e he => nomatch he⟩
      refine dec2 (fun _ => ?_) (fun _ => ?_)
      · refine ws_append (i := 4) (ds := []) rfl ?_
        walk_at "go"
        refine ⟨Nat.zero_le _, ?_⟩
        walk_at "go"
        refine do_draw (by decide) (by decide) (by omega) fun r2 _ _ => ?_
        walk_at "go"
        refine ⟨Nat.le_of_ble_eq_true rfl, Nat.le_of_ble_eq_true rfl, [⟨"a", [], r2⟩], _, _, rfl, g0.add (ok_of fa [] r2) (Nat.zero_le _), by omega⟩
      · walk_at "ws1"
        exact ⟨[], _, _, rfl, g0.up (by decide), by omega⟩
    · rintro n1 ρ1 ⟨F, x5, x6, rfl, gF, h1⟩
      walk_at "ws1"
      refine WS.mono (Ψ := { nx := fun n2 ρ1 => ∃ F x5 x6, ρ1 = rF b nm wd tw F x5 x6 ∧ GdF 3 F ∧ n2 ≤ n + 10, rt := fun _ _ => False }) ?_ ?_ (fun _ _ h => h.elim) (fun _ _ h => h.elim) (fun _ _ h => h.elim)
      · refine ws_if ?_
        walk_at "go"
        refine do_draw (by decide) (by decide) (by omega) fun r r0 rk => ?_
        walk_at "go"
        refine dec2 (fun _ => ?_) (fun _ => ?_)
        · walk_at "ws1"
          walk_at "ws1"
          refine we_cb (wa_cons (wf_we (wf_lc ?_)))
          walk_at "go"
          refine ⟨by omega, by omega, ?_⟩
          rw [Int.toNat_natCast]
          refine ⟨fun k m acc => m = n1 + 1 + k ∧ ∃ ks : List Int, acc = ks.map D.int ∧ ks.length = k, ⟨rfl, [], rfl, rfl⟩, ?_, ?_⟩
          · rintro k m acc d hd ⟨rfl, ks, rfl, hk⟩
            obtain ⟨hkw, rfl⟩ := rangeD_get hd
            walk_at "go"
            refine itT rfl ?_
            walk_at "go"
            refine do_draw (by decide) (by decide) (by omega) fun r2 _ _ => ?_
            walk_at "go"
            refine r2_fdivW (cdiv _ (by decide)) ?_
            walk_at "go"
            refine ⟨by rw [List.length_map, sizeLine_eq]; omega, by omega, ks ++ [r2 / 3], by rw [List.map_append]; rfl, by rw [List.length_append, hk]; rfl⟩
          · rintro m acc ⟨rfl, ks, rfl, hk⟩
            rw [rangeD_len] at hk ⊢
            refine wa_nil (rc_tup rfl ?_)
            walk_at "ws1"
            refine ws_append (i := 4) (ds := F.map entD) rfl ?_
            walk_at "go"
            refine do_draw (by decide) (by decide) (by omega) fun r2 _ _ => ?_
            walk_at "go"
            refine r2_fdivW (cdiv _ (by decide)) ?_
            walk_at "go"
            refine ⟨Nat.le_of_ble_eq_true rfl, small_F gF (by decide), ?_⟩
            have g2 := gF.add (ok_of fn ks (r2 / 2)) (by show ks.length ≤ 2; omega)
            show WS _ _ [.val (.adr b), .val (.str nm), .val (.int (wd : Nat)), .val (.bl tw), .own (F.map entD ++ [entD ⟨nm, ks, r2 / 2⟩]), x5, .val (.tup (ks.map .int))] _ _
            rw [app_ent]
            generalize F ++ [⟨nm, ks, r2 / 2⟩] = F2 at g2
            refine ws_if ?_
            walk_at "go"
            refine boo2 (fun ht => ?_) (fun ht => ?_)
            · walk_at "go"
              refine do_draw (by decide) (by decide) (by omega) fun r3 _ _ => ?_
              walk_at "go"
              refine dec2 (fun _ => ?_) (fun _ => ?_)
              · refine ws_append (i := 4) (ds := F2.map entD) rfl ?_
                have hw0 := htw ht
                obtain ⟨k0, ks', rfl⟩ : ∃ k0 ks', ks = k0 :: ks' := by
                  cases ks with
                  | nil => simp at hk; omega
                  | cons k0 ks' => exact ⟨k0, ks', rfl⟩
                walk_at "go"
                have h00 : ixD (.tup ((k0 :: ks').map D.int)) 0 = some (.int k0) := (atI_nat rfl : atI ((k0 :: ks').map D.int) ((0 : Nat) : Int) = some _)
                refine r2_ix h00 ?_
                walk_at "go"
                refine ⟨Nat.le_of_ble_eq_true rfl, ?_⟩
                walk_at "go"
                obtain ⟨ys, e1, e2⟩ := cut_map D.int (k0 :: ks') (some 1) none
                have e3 : cutD (.int k0 :: ks'.map .int) (some 1) none = ys.map .int := e1
                rw [e1]
                have hy : ys.length ≤ 2 := Nat.le_trans e2.length_le (by omega)
                refine r2_catT (by rw [List.length_map]; show 1 + _ ≤ _; omega) ?_
                walk_at "go"
                refine do_draw (by decide) (by decide) (by omega) fun r4 _ _ => ?_
                walk_at "go"
                refine r2_fdivW (cdiv _ (by decide)) ?_
                walk_at "go"
                have hks : (k0 :: ks').length = wd := hk
                have hy2 : ys.length ≤ 1 ∨ ys = k0 :: ks' := by
                  by_cases q : ys.length = (k0 :: ks').length
                  · exact .inr (e2.eq_of_length q)
                  · left; have := e2.length_le; omega
                have e4 : cutD (.int k0 :: ks'.map .int) (some 1) none = ks'.map .int := by
                  unfold cutD
                  have s1 : HT.sIx (D.int k0 :: ks'.map D.int).length 0 (some ((1 : Nat) : Int)) = 1 := by
                    rw [HT.sIx_nat, List.length_cons]; omega
                  have s1' : HT.sIx (D.int k0 :: ks'.map D.int).length 0 (some 1) = 1 := s1
                  have s2 : HT.sIx (D.int k0 :: ks'.map D.int).length (D.int k0 :: ks'.map D.int).length none = (D.int k0 :: ks'.map D.int).length := rfl
                  rw [s1', s2]
                  show (List.map D.int ks').take ((List.map D.int ks').length + 1 - 1) = _
                  rw [Nat.add_sub_cancel, List.take_length]
                have e5 : ys.map D.int = ks'.map D.int := e3.symm.trans e4
                have hyl : ys.length = ks'.length := by
                  have := congrArg List.length e5
                  rw [List.length_map, List.length_map] at this; exact this
                have hfin : ((k0 + 1) :: ys).length ≤ 2 := by
                  rw [List.length_cons, hyl]; rw [List.length_cons] at hks; omega
                refine ⟨Nat.le_of_ble_eq_true rfl, small_F g2 (by decide), F2 ++ [⟨nm, (k0 + 1) :: ys, r4 / 2⟩], x5, .val (.tup ((k0 :: ks').map .int)), ?_, g2.add (ok_of fn _ _) hfin, by omega⟩
                show _ = [_, _, _, _, SD.own ((F2 ++ [(⟨nm, (k0 + 1) :: ys, r4 / 2⟩ : Ent)]).map entD), _, _]
                rw [← app_ent]; rfl
              · walk_at "ws1"
                exact ⟨F2, _, _, rfl, g2.up (by decide), by omega⟩
            · refine itF rfl ?_
              walk_at "ws1"
              exact ⟨F2, _, _, rfl, g2.up (by decide), by omega⟩
        · walk_at "ws1"
          exact ⟨F, _, _, rfl, gF.up (by decide), by omega⟩
      · rintro n2 ρ1 ⟨F, x5, x6, rfl, gF, h2⟩
        refine ws_freeze 4 rfl ?_
        walk_at "ws1"
        walk_at "go"
        refine rc_sort (plain_ents F) (alike_E F) (sortable_E F) (by rw [List.length_map, sizeLine_eq]; have := gF.1; omega) (fun d hd => ?_) ?_
        · obtain ⟨x, _, rfl⟩ := List.mem_map.mp hd
          exact Nat.le_trans (depth_E x) (by decide)
        rw [sortD_ent]
        walk_at "go"
        refine rc_tup rfl ?_
        exact kk (sortE F) n2 (by rw [(sortE_perm F).length_eq]; exact gF.1) (fun e he => gF.2 e ((sortE_perm F).mem_iff.mp he)) (by omega)
end
end Toy
namespace Toy
open PySem L2 L3
local macro_rules | `(tactic| walk_at "we1") => `(tactic| first
  | ((with_reducible refine' we_var ?hv ?_); (case hv => rfl))
  | (with_reducible refine we_int ?_)
  | (with_reducible refine we_str ?_)
  | (with_reducible refine we_bl ?_)
  | (with_reducible refine we_non ?_)
  | ((with_reducible refine' we_dix ?hv ?_); (case hv => rfl))
  | (with_reducible refine we_op ?_)
  | ((with_reducible refine' we_dget ?hv ?_); (case hv => rfl))
  | (with_reducible refine we_count ?_)
  | (with_reducible refine we_cb ?_)
  | (with_reducible refine we_call0 ?_)
  | (with_reducible refine we_tup ?_)
  | (with_reducible refine we_lst ?_)
  | (with_reducible refine we_if ?_)
  | (with_reducible refine we_not ?_)
  | (with_reducible refine we_and ?_)
  | (with_reducible refine we_or ?_)
  | (with_reducible refine we_isN ?_)
  | (with_reducible refine we_notN ?_)
  | (with_reducible refine we_sl ?_)
  | (with_reducible refine wa_cons ?_)
  | (with_reducible refine wa_nil ?_)
  | (with_reducible refine wt_test ?_)
  | (with_reducible refine wt_B ?_)
  | (with_reducible refine wt_and ?_)
  | (with_reducible refine wt_or ?_)
  | (with_reducible refine wt_not ?_)
  | (with_reducible refine wt_yes ?_)
  | (with_reducible refine wo_none ?_)
  | (with_reducible refine wo_some ?_)
  | ((with_reducible refine' r2_ix ?hx ?_); (case hx => rfl))
  | (with_reducible refine r2_isN ?_)
  | (with_reducible refine r2_notN ?_)
  | (with_reducible refine r2_lt ?_)
  | (with_reducible refine r2_le ?_)
  | (with_reducible refine r2_gt ?_)
  | (with_reducible refine r2_ge ?_)
  | (with_reducible refine r2_sub ?_)
  | (with_reducible refine r2_addI ?_)
  | (with_reducible refine r2_eqI ?_)
  | (with_reducible refine r2_neI ?_)
  | (with_reducible refine rc_int ?_)
  | (with_reducible refine rc_abs ?_)
  | ((with_reducible refine' rc_len ?hl ?_); (case hl => rfl))
  | (with_reducible refine wi_seq ?_)
  | (with_reducible refine wi_rng1 ?_)
  | (with_reducible refine wi_rng2 ?_)
  | (with_reducible refine wi_enum ?_)
  | (refine ⟨_, rfl, ?_⟩))
local macro_rules | `(tactic| walk_at "ws1") => `(tactic| first
  | (with_reducible refine ws_seq ?_)
  | (with_reducible refine ws_set ?_)
  | (with_reducible refine ws_ret ?_)
  | (with_reducible refine ws_if ?_)
  | (with_reducible refine ws_next ?_)
  | (with_reducible refine ws_asg ?_))
local macro_rules | `(tactic| walk_at "wg1") => `(tactic| first
  | (with_reducible refine wg_name (rw_name (by decide)) ?_)
  | (with_reducible refine wg_name (fun _ _ => trivial) ?_)
  | ((with_reducible refine' wg_tup ?hl ?_); (case hl => rfl))
  | (with_reducible refine wgs_cons rw_trans ?_)
  | (with_reducible refine wgs_nil rw_refl ?_)
  | (with_reducible refine wgs_cons (fun _ _ _ _ _ => trivial) ?_)
  | (with_reducible refine wgs_nil (fun _ => trivial) ?_))
local macro_rules | `(tactic| walk_at "go") => `(tactic| repeat' (first | walk_at "we1" | walk_at "wg1"))
/-! ### ways, plainly -/
def allWays : Nat → List (List Bool)
  | 0 => [[]]
  | i + 1 => (allWays i).map (· ++ [true]) ++ (allWays i).map (· ++ [false])
theorem ways_len : ∀ i, (allWays i).length = 2 ^ i
  | 0 => rfl
  | i + 1 => by
    unfold allWays
    rw [List.length_append, List.length_map, List.length_map, ways_len i, Nat.pow_succ]; omega
theorem ways_mem : ∀ (i : Nat) (w : List Bool), w ∈ allWays i ↔ w.length = i
  | 0, w => by
    constructor
    · intro h; rw [List.mem_singleton.mp h]; rfl
    · intro h; rw [List.eq_nil_of_length_eq_zero h]; exact List.mem_singleton.mpr rfl
  | i + 1, w => by
    unfold allWays
    rw [List.mem_append, List.mem_map, List.mem_map]
    constructor
    · rintro (⟨v, hv, rfl⟩ | ⟨v, hv, rfl⟩)
      · rw [List.length_append, (ways_mem i v).mp hv]; rfl
      · rw [List.length_append, (ways_mem i v).mp hv]; rfl
    · intro h
      have hne : w ≠ [] := fun q => by rw [q] at h; cases h
      have e := List.dropLast_concat_getLast hne
      have hl : w.dropLast.length = i := by rw [List.length_dropLast]; omega
      cases hb : w.getLast hne with
      | true => rw [hb] at e; exact .inl ⟨_, (ways_mem i _).mpr hl, e⟩
      | false => rw [hb] at e; exact .inr ⟨_, (ways_mem i _).mpr hl, e⟩
def trues (w : List Bool) : Nat := (w.filter id).length
/-- what a way leaves -/
def restOf : List Ent → List Bool → List Ent
  | e :: E, b :: w => if b then restOf E w else e :: restOf E w
  | _, _ => []
theorem rest_len : ∀ (E : List Ent) (w : List Bool), w.length = E.length → (restOf E w).length + trues w = E.length
  | [], [], _ => rfl
  | [], _ :: _, h => by simp at h
  | _ :: _, [], h => by simp at h
  | e :: E, b :: w, h => by
    have ih := rest_len E w (by simpa using h)
    cases b with
    | true => show (restOf E w).length + (trues w + 1) = E.length + 1; omega
    | false => show (restOf E w).length + 1 + trues w = E.length + 1; omega
theorem rest_sub : ∀ (E : List Ent) (w : List Bool) (x : Ent), x ∈ restOf E w → x ∈ E
  | [], _, x, h => by simp [restOf] at h
  | _ :: _, [], x, h => by simp [restOf] at h
  | e :: E, true :: w, x, h => List.mem_cons_of_mem _ (rest_sub E w x h)
  | e :: E, false :: w, x, h => by
    have h' : x ∈ e :: restOf E w := h
    rcases List.mem_cons.mp h' with q | q
    · rw [q]; exact List.mem_cons_self
    · exact List.mem_cons_of_mem _ (rest_sub E w x q)
theorem rest_count : ∀ (E : List Ent) (w : List Bool) (x : Ent), (∀ y ∈ restOf E w, y = x) → (restOf E w).length ≤ E.count x
  | [], _, x, _ => by simp [restOf]
  | _ :: _, [], x, _ => by simp [restOf]
  | e :: E, true :: w, x, h => Nat.le_trans (rest_count E w x h) (by rw [List.count_cons]; omega)
  | e :: E, false :: w, x, h => by
    have h' : ∀ y ∈ e :: restOf E w, y = x := h
    have ih := rest_count E w x fun y hy => h' y (List.mem_cons_of_mem _ hy)
    have he : e = x := h' e List.mem_cons_self
    show (restOf E w).length + 1 ≤ _
    rw [List.count_cons, he]; simp; omega
/-- the way that leaves only x -/
def onlyWay (E : List Ent) (x : Ent) : List Bool := E.map fun e => !decide (e = x)
theorem only_rest : ∀ (E : List Ent) (x : Ent), restOf E (onlyWay E x) = List.replicate (E.count x) x
  | [], x => rfl
  | e :: E, x => by
    have ih := only_rest E x
    show restOf (e :: E) ((!decide (e = x)) :: onlyWay E x) = _
    rw [List.count_cons]
    by_cases h : e = x
    · subst h
      simp [restOf, ih, List.replicate_succ]
    · simp [restOf, ih, h]
def okWay (E : List Ent) (could : Int) (x : Ent) (w : List Bool) : Prop := (trues w : Int) ≤ could ∧ restOf E w ≠ [] ∧ ∀ y ∈ restOf E w, y = x
theorem way_iff (E : List Ent) (could : Int) (x : Ent) (hc : could < E.length) : (∃ w ∈ allWays E.length, okWay E could x w) ↔ x ∈ E ∧ (E.length : Int) - (E.count x : Nat) ≤ could := by
  constructor
  · rintro ⟨w, hw, h1, h2, h3⟩
    have hl := rest_len E w ((ways_mem _ _).mp hw)
    have hcnt := rest_count E w x h3
    refine ⟨?_, by omega⟩
    cases hr : restOf E w with
    | nil => exact absurd hr h2
    | cons y l =>
      have hy : y ∈ restOf E w := by rw [hr]; exact List.mem_cons_self
      have := h3 y hy
      subst this
      exact rest_sub E w y hy
  · rintro ⟨hx, h⟩
    have hlen : (onlyWay E x).length = E.length := by unfold onlyWay; rw [List.length_map]
    have e := only_rest E x
    have hl := rest_len E _ hlen
    rw [e, List.length_replicate] at hl
    refine ⟨onlyWay E x, (ways_mem _ _).mpr hlen, by omega, ?_, ?_⟩
    · rw [e]
      have : 0 < E.count x := List.count_pos_iff.mpr hx
      intro q
      have := congrArg List.length q
      rw [List.length_replicate] at this
      simp at this; omega
    · rw [e]
      intro y hy
      exact (List.mem_replicate.mp hy).2
theorem way_none (E : List Ent) (could : Int) : (∃ w ∈ allWays E.length, (trues w : Int) ≤ could ∧ restOf E w = []) ↔ (E.length : Int) ≤ could := by
  constructor
  · rintro ⟨w, hw, h1, h2⟩
    have hl := rest_len E w ((ways_mem _ _).mp hw)
    rw [h2] at hl
    simp at hl; omega
  · intro h
    have hlen : (List.replicate E.length true).length = E.length := List.length_replicate
    have hl := rest_len E _ hlen
    have ht : trues (List.replicate E.length true) = E.length := by unfold trues; simp [List.filter_replicate]
    refine ⟨_, (ways_mem _ _).mpr hlen, by omega, ?_⟩
    exact List.eq_nil_of_length_eq_zero (by omega)
/-- the entry that all ways leave -/
def oneD : List Ent → D
  | [x] => entD x
  | _ => .non
/-! ### it is the sure entry -/
theorem sum_count : ∀ (E L : List Ent), L.Nodup → (∀ x ∈ E, x ∈ L) → (L.map fun e => ((E.count e : Nat) : Int)).sum = E.length
  | [], L, _, _ => by
    have : (L.map fun e => (((([] : List Ent).count e : Nat)) : Int)) = L.map fun _ => (0 : Int) := List.map_congr_left fun e _ => by simp
    rw [this]
    have z : ∀ L : List Ent, (L.map fun _ => (0 : Int)).sum = 0 := fun L => by
      induction L with
      | nil => rfl
      | cons x L ih => rw [List.map_cons, List.sum_cons, ih]; rfl
    rw [z]; rfl
  | x :: E, L, nd, h => by
    have ih := sum_count E L nd fun y hy => h y (List.mem_cons_of_mem _ hy)
    have hx := h x List.mem_cons_self
    have key : ∀ L : List Ent, L.Nodup → (L.map fun e => (((x :: E).count e : Nat) : Int)).sum = (L.map fun e => ((E.count e : Nat) : Int)).sum + if x ∈ L then 1 else 0 := by
      intro L
      induction L with
      | nil => intro _; rfl
      | cons y L ihL =>
        intro nd
        have nd' := List.nodup_cons.mp nd
        have ih2 := ihL nd'.2
        rw [List.map_cons, List.sum_cons, List.map_cons, List.sum_cons, ih2, List.count_cons]
        by_cases q : x = y
        · subst q
          simp [nd'.1]; omega
        · simp [q]; omega
    rw [key L nd, ih, if_pos hx, List.length_cons]; omega
theorem fold_le (c : Int) : ∀ (l : List Int) (a : Int), l.foldl max a ≤ c ↔ a ≤ c ∧ ∀ y ∈ l, y ≤ c
  | [], a => by simp
  | x :: l, a => by
    show l.foldl max (max a x) ≤ c ↔ _
    rw [fold_le c l]
    simp only [List.mem_cons, forall_eq_or_imp]
    constructor
    · rintro ⟨h1, h2⟩; exact ⟨by omega, by omega, h2⟩
    · rintro ⟨h1, h2, h3⟩; exact ⟨by omega, h3⟩
def prs (E L : List Ent) : List (D × Int) := L.map fun e => (entD e, ((E.count e : Nat) : Int))
theorem one_of {α : Type} {l : List α} (nd : l.Nodup) {x : α} (h : ∀ y, y ∈ l ↔ y = x) : l = [x] := by
  cases l with
  | nil => exact absurd ((h x).mpr rfl) (by simp)
  | cons y l =>
    have hy := (h y).mp List.mem_cons_self
    subst hy
    cases l with
    | nil => rfl
    | cons z l =>
      have hz := (h z).mp (List.mem_cons_of_mem _ List.mem_cons_self)
      subst hz
      exact absurd List.mem_cons_self (List.nodup_cons.mp nd).1
theorem sure_is {E L F : List Ent} {could : Int} (h0 : 0 ≤ could) (nL : L.Nodup) (hL : ∀ x, x ∈ L ↔ x ∈ E) (nF : F.Nodup) (hc : could < E.length) (hF : ∀ x, x ∈ F ↔ x ∈ E ∧ (E.length : Int) - (E.count x : Nat) ≤ could) : sureD (prs E L) could = oneD F := by
  have ht : tot (prs E L) = E.length := by
    unfold tot prs
    rw [List.map_map]
    exact sum_count E L nL fun x hx => (hL x).mpr hx
  have hm : ∀ x, (could < tot (prs E L) - mostD (prs E L) (entD x)) ↔ ∀ y ∈ F, y = x := by
    intro x
    have h1 : (could < tot (prs E L) - mostD (prs E L) (entD x)) ↔ mostD (prs E L) (entD x) ≤ (E.length : Int) - could - 1 := by rw [ht]; omega
    rw [h1]
    unfold mostD
    rw [fold_le]
    constructor
    · rintro ⟨_, h2⟩ y hy
      obtain ⟨hyE, hyc⟩ := (hF y).mp hy
      refine Classical.byContradiction fun q => ?_
      have := h2 (E.count y : Nat) (List.mem_map.mpr ⟨(entD y, ((E.count y : Nat) : Int)), List.mem_filter.mpr ⟨List.mem_map.mpr ⟨y, (hL y).mpr hyE, rfl⟩, by
        show (!eqD (entD y) (entD x)) = true
        rw [eq_ent]; simpa using q⟩, rfl⟩)
      omega
    · intro h
      refine ⟨by omega, fun c hc' => ?_⟩
      obtain ⟨p, hp, rfl⟩ := List.mem_map.mp hc'
      obtain ⟨hp1, hp2⟩ := List.mem_filter.mp hp
      obtain ⟨y, hy, rfl⟩ := List.mem_map.mp hp1
      have hne : y ≠ x := by
        have : (!eqD (entD y) (entD x)) = true := hp2
        rw [eq_ent] at this; simpa using this
      have hyE := (hL y).mp hy
      by_cases q : (E.length : Int) - (E.count y : Nat) ≤ could
      · exact absurd (h y ((hF y).mpr ⟨hyE, q⟩)) hne
      · show ((E.count y : Nat) : Int) ≤ _; omega
  have hfit : fitsD (prs E L) (prs E L) could = (L.filter fun x => decide (could < tot (prs E L) - mostD (prs E L) (entD x))).map entD := by
    unfold fitsD
    generalize hg : (fun p : D × Int => decide (could < tot (prs E L) - mostD (prs E L) p.1)) = g
    have hg' : ∀ x : Ent, decide (could < tot (prs E L) - mostD (prs E L) (entD x)) = g (entD x, ((E.count x : Nat) : Int)) := fun x => by rw [← hg]
    simp only [hg']
    unfold prs
    rw [List.filter_map, List.map_map]; rfl
  have hmem : ∀ x, x ∈ (L.filter fun x => decide (could < tot (prs E L) - mostD (prs E L) (entD x))) ↔ x ∈ E ∧ ∀ y ∈ F, y = x := by
    intro x
    rw [List.mem_filter, hL, decide_eq_true_iff, hm]
  have ndf : (L.filter fun x => decide (could < tot (prs E L) - mostD (prs E L) (entD x))).Nodup := nL.filter _
  unfold sureD
  rw [hfit]
  generalize (L.filter fun x => decide (could < tot (prs E L) - mostD (prs E L) (entD x))) = G at hmem ndf
  -- by F
  cases F with
  | nil =>
    have hG : ∀ x, x ∈ G ↔ x ∈ E := fun x => by rw [hmem]; simp
    cases G with
    | nil => rfl
    | cons a G =>
      cases G with
      | cons c G => rfl
      | nil =>
        exfalso
        have hall : ∀ x ∈ E, x = a := fun x hx => by
          have := (hG x).mpr hx
          exact List.mem_singleton.mp this
        have haE : a ∈ E := (hG a).mp List.mem_cons_self
        have hca : E.count a = E.length := List.count_eq_length.mpr fun b hb => (hall b hb).symm
        have : a ∈ ([] : List Ent) := (hF a).mpr ⟨haE, by rw [hca]; omega⟩
        cases this
  | cons p F =>
    cases F with
    | nil =>
      have hG : ∀ x, x ∈ G ↔ x = p := fun x => by
        rw [hmem]
        constructor
        · rintro ⟨_, h⟩; exact (h p List.mem_cons_self).symm
        · intro h
          subst h
          exact ⟨((hF x).mp List.mem_cons_self).1, fun y hy => List.mem_singleton.mp hy⟩
      rw [one_of ndf hG]; rfl
    | cons r F =>
      have hG : G = [] := by
        refine List.eq_nil_iff_forall_not_mem.mpr fun x hx => ?_
        obtain ⟨_, h⟩ := (hmem x).mp hx
        have h1 := h p List.mem_cons_self
        have h2 := h r (List.mem_cons_of_mem _ List.mem_cons_self)
        rw [h1, ← h2] at nF
        exact (List.nodup_cons.mp nF).1 List.mem_cons_self
      rw [hG]; rfl
theorem sure_few {E L : List Ent} {could : Int} (nL : L.Nodup) (hL : ∀ x, x ∈ L ↔ x ∈ E) (hc : (E.length : Int) ≤ could) : sureD (prs E L) could = .non := by
  have ht : tot (prs E L) = E.length := by
    unfold tot prs
    rw [List.map_map]
    exact sum_count E L nL fun x hx => (hL x).mpr hx
  have : fitsD (prs E L) (prs E L) could = [] := by
    unfold fitsD
    rw [List.map_eq_nil_iff, List.filter_eq_nil_iff]
    intro p hp
    have h0 : 0 ≤ mostD (prs E L) p.1 := by
      unfold mostD
      exact ((fold_le _ _ 0).mp (Int.le_refl _)).1
    rw [ht]
    simp only [decide_eq_true_eq]
    omega
  unfold sureD
  rw [this]
end Toy
namespace Toy
open PySem L2 L3
local macro_rules | `(tactic| walk_at "we1") => `(tactic| first
  | ((with_reducible refine' we_var ?hv ?_); (case hv => rfl))
  | (with_reducible refine we_int ?_)
  | (with_reducible refine we_str ?_)
  | (with_reducible refine we_bl ?_)
  | (with_reducible refine we_non ?_)
  | ((with_reducible refine' we_dix ?hv ?_); (case hv => rfl))
  | (with_reducible refine we_op ?_)
  | ((with_reducible refine' we_dget ?hv ?_); (case hv => rfl))
  | (with_reducible refine we_count ?_)
  | (with_reducible refine we_cb ?_)
  | (with_reducible refine we_call0 ?_)
  | (with_reducible refine we_tup ?_)
  | (with_reducible refine we_lst ?_)
  | (with_reducible refine we_if ?_)
  | (with_reducible refine we_not ?_)
  | (with_reducible refine we_and ?_)
  | (with_reducible refine we_or ?_)
  | (with_reducible refine we_isN ?_)
  | (with_reducible refine we_notN ?_)
  | (with_reducible refine we_sl ?_)
  | (with_reducible refine wa_cons ?_)
  | (with_reducible refine wa_nil ?_)
  | (with_reducible refine wt_test ?_)
  | (with_reducible refine wt_B ?_)
  | (with_reducible refine wt_and ?_)
  | (with_reducible refine wt_or ?_)
  | (with_reducible refine wt_not ?_)
  | (with_reducible refine wt_yes ?_)
  | (with_reducible refine wo_none ?_)
  | (with_reducible refine wo_some ?_)
  | ((with_reducible refine' r2_ix ?hx ?_); (case hx => rfl))
  | (with_reducible refine r2_isN ?_)
  | (with_reducible refine r2_notN ?_)
  | (with_reducible refine r2_lt ?_)
  | (with_reducible refine r2_le ?_)
  | (with_reducible refine r2_gt ?_)
  | (with_reducible refine r2_ge ?_)
  | (with_reducible refine r2_sub ?_)
  | (with_reducible refine r2_addI ?_)
  | (with_reducible refine r2_eqI ?_)
  | (with_reducible refine r2_neI ?_)
  | (with_reducible refine rc_int ?_)
  | (with_reducible refine rc_abs ?_)
  | ((with_reducible refine' rc_len ?hl ?_); (case hl => rfl))
  | (with_reducible refine wi_seq ?_)
  | (with_reducible refine wi_rng1 ?_)
  | (with_reducible refine wi_rng2 ?_)
  | (with_reducible refine wi_enum ?_)
  | (refine ⟨_, rfl, ?_⟩))
local macro_rules | `(tactic| walk_at "ws1") => `(tactic| first
  | (with_reducible refine ws_seq ?_)
  | (with_reducible refine ws_set ?_)
  | (with_reducible refine ws_ret ?_)
  | (with_reducible refine ws_if ?_)
  | (with_reducible refine ws_next ?_)
  | (with_reducible refine ws_asg ?_))
local macro_rules | `(tactic| walk_at "wg1") => `(tactic| first
  | (with_reducible refine wg_name (rw_name (by decide)) ?_)
  | (with_reducible refine wg_name (fun _ _ => trivial) ?_)
  | ((with_reducible refine' wg_tup ?hl ?_); (case hl => rfl))
  | (with_reducible refine wgs_cons rw_trans ?_)
  | (with_reducible refine wgs_nil rw_refl ?_)
  | (with_reducible refine wgs_cons (fun _ _ _ _ _ => trivial) ?_)
  | (with_reducible refine wgs_nil (fun _ => trivial) ?_))
local macro_rules | `(tactic| walk_at "go") => `(tactic| repeat' (first | walk_at "we1" | walk_at "wg1"))
section
variable {P : Program} {w : World} {K : PySem.W.Frag} {mg : Str → Option Value} {base : Heap}
abbrev wayD (w : List Bool) : D := .lst (w.map .bl)
def spOnly : L3.Spec := fun bag n ds Φ => ∃ (E : List Ent) (could : Int), ds = [.lst (E.map entD), .int could] ∧ E.length ≤ 18 ∧ 0 ≤ could ∧ (∀ e ∈ E, okE e) ∧
  ∀ d, ((E.length : Int) ≤ could → d = .non) → (could < E.length → ∀ F : List Ent, F.Nodup → (∀ x, x ∈ F ↔ x ∈ E ∧ (E.length : Int) - (E.count x : Nat) ≤ could) → d = oneD F) → Φ n d
def addT (b : Bool) : D → D
  | .lst w => .lst (w ++ [.bl b])
  | d => d
theorem addT_way (b : Bool) (w : List Bool) : addT b (wayD w) = wayD (w ++ [b]) := by
  show D.lst (w.map D.bl ++ [.bl b]) = D.lst ((w ++ [b]).map D.bl)
  rw [List.map_append]; rfl
def isT : D → Bool
  | .bl b => b
  | _ => false
theorem filt_bl (w : List Bool) : ((w.map D.bl).filter isT).length = trues w := by
  rw [List.filter_map, List.length_map]
  unfold trues
  congr 1
/-- the places that a way leaves -/
def lefts (w : List Bool) : D → Bool
  | .tup [.int i, _] => !(w.getD i.toNat true)
  | _ => false
def secE : D → D
  | .tup [_, x] => x
  | _ => .non
theorem rest_enum (w0 : List Bool) : ∀ (E : List Ent) (w pre : List Bool), w0 = pre ++ w → w.length = E.length → ((enumD (pre.length : Nat) (E.map entD)).filter (lefts w0)).map secE = (restOf E w).map entD
  | [], [], _, _, _ => rfl
  | [], _ :: _, _, _, h => by simp at h
  | _ :: _, [], _, _, h => by simp at h
  | e :: E, b :: w, pre, h, hl => by
    have ih := rest_enum w0 E w (pre ++ [b]) (by rw [h]; simp) (by simpa using hl)
    have e1 : ((pre ++ [b]).length : Int) = ((pre.length : Nat) : Int) + 1 := by simp
    rw [e1] at ih
    show (List.filter (lefts w0) (.tup [.int (pre.length : Nat), entD e] :: enumD ((pre.length : Nat) + 1) (E.map entD))).map secE = _
    have hp : lefts w0 (.tup [.int (pre.length : Nat), entD e]) = !b := by
      show (!(w0.getD (((pre.length : Nat) : Int)).toNat true)) = !b
      rw [Int.toNat_natCast, h]
      simp
    cases b with
    | true => rw [List.filter_cons_of_neg (by rw [hp]; decide)]; exact ih
    | false =>
      rw [List.filter_cons_of_pos (by rw [hp]; decide), List.map_cons, ih]; rfl
theorem all_same (x : Ent) (l : List Ent) : (((l.map entD).map fun d => D.bl (eqD d (entD x)))) = (l.map fun e => decide (e = x)).map D.bl := by
  rw [List.map_map, List.map_map]
  exact List.map_congr_left fun e _ => by show D.bl (eqD (entD e) (entD x)) = _; rw [eq_ent]; rfl
theorem nodup_le : ∀ (F E : List Ent), F.Nodup → (∀ x ∈ F, x ∈ E) → F.length ≤ E.length
  | [], _, _, _ => Nat.zero_le _
  | x :: F, E, nd, h => by
    have nd' := List.nodup_cons.mp nd
    have hx := h x List.mem_cons_self
    have ih := nodup_le F (E.erase x) nd'.2 fun y hy => by
      have hne : y ≠ x := fun q => nd'.1 (q ▸ hy)
      exact (List.mem_erase_of_ne hne).mpr (h y (List.mem_cons_of_mem _ hy))
    rw [List.length_erase_of_mem hx] at ih
    have : 0 < E.length := List.length_pos_of_mem hx
    rw [List.length_cons]; omega
theorem oneD_same {F G : List Ent} (nF : F.Nodup) (nG : G.Nodup) (h : ∀ x, x ∈ F ↔ x ∈ G) : oneD F = oneD G := by
  have e : F.length = G.length := Nat.le_antisymm (nodup_le F G nF fun x hx => (h x).mp hx) (nodup_le G F nG fun x hx => (h x).mpr hx)
  match F, G, e with
  | [], [], _ => rfl
  | [x], [y], _ =>
    have := List.mem_singleton.mp ((h x).mp List.mem_cons_self)
    rw [this]
  | _ :: _ :: _, _ :: _ :: _, _ => rfl
theorem oneD_non {F : List Ent} (h : F.length ≠ 1) : oneD F = .non := by
  match F, h with
  | [], _ => rfl
  | [_], h => exact absurd rfl h
  | _ :: _ :: _, _ => rfl
def FInv (E : List Ent) (could : Int) (W : List (List Bool)) (i : Nat) (F : List Ent) : Prop := F.Nodup ∧ (∀ x, x ∈ F ↔ ∃ w ∈ W.take i, okWay E could x w) ∧ (∀ w ∈ W.take i, (trues w : Int) ≤ could → restOf E w ≠ []) ∧ (∀ x ∈ F, x ∈ E)
abbrev rO (E : List Ent) (could : Int) (W : List (List Bool)) (x3 x4 : SD) (F : SD) (x6 x7 x8 x9 : SD) : List SD := [.val (.lst (E.map entD)), .val (.int could), .val (.lst (W.map wayD)), x3, x4, F, x6, x7, x8, x9]
abbrev s_law_only_in_all_ways : Stmt := top 11
abbrev N_law_only_in_all_ways : List Str := ["entries", "could", "ways", "entry", "way", "found", "flag", "false", "place", "rest"]
theorem sc_law_only_in_all_ways : FnScope N_law_only_in_all_ways ["entries", "could"] (defScope s_law_only_in_all_ways) := ⟨rfl, rfl, rfl, by decide +kernel, rfl, by decide +kernel, by decide +kernel⟩

theorem ok_only {f : Addr} {fd : FuncData} (F : Fun K "_law_only_in_all_ways" "_law_only_in_all_ways" s_law_only_in_all_ways f fd) (T : Txt mg) : FnOk P w K mg base CX0 1 f fd ["entries", "could"] (spD K spOnly) := by
  refine fn_D F sc_law_only_in_all_ways (fun bag n ds Φ h => ?_) (fun cdv A outer s H Ex O bag n ds Φ hr h => ?_)
  · obtain ⟨E, could, e, _⟩ := h
    rw [e]; rfl
  · obtain ⟨E, could, e, hE, hc, hok, kk⟩ := h
    subst e
    refine ⟨_, (pss_cons (ps_set (i := 2) sc_law_only_in_all_ways.nd rfl (Or.inl rfl) (pe_lst (pa_cons (pe_lst pa_nil) pa_nil)))
  (pss_cons (ps_for PassesOwn.never rfl (x_seq K (pv 0)) (pg_name (i := 3) sc_law_only_in_all_ways.nd rfl (Or.inl rfl)) (pss_one (ps_set (i := 2) sc_law_only_in_all_ways.nd rfl (Or.inl rfl) (pe_op (x_add K) (pe_lc (own := [("way", 4)]) (g := gName 4) (tt := tYes) rfl sc_law_only_in_all_ways.nd (x_seq K (pv 2)) (blkOk_by (own := [("way", 4)]) (N := N_law_only_in_all_ways) (sc := defScope s_law_only_in_all_ways) (by decide +kernel)) (fun _ _ _ _ _ => (pg_name (i := 4) sc_law_only_in_all_ways.nd rfl (Or.inl rfl))) (fun _ _ _ _ _ => pts_nil) (fun _ _ _ _ _ => (pe_op (x_add K) (pv 4) (pe_lst (pa_cons pe_bl pa_nil))))) (pe_lc (own := [("way", 4)]) (g := gName 4) (tt := tYes) rfl sc_law_only_in_all_ways.nd (x_seq K (pv 2)) (blkOk_by (own := [("way", 4)]) (N := N_law_only_in_all_ways) (sc := defScope s_law_only_in_all_ways) (by decide +kernel)) (fun _ _ _ _ _ => (pg_name (i := 4) sc_law_only_in_all_ways.nd rfl (Or.inl rfl))) (fun _ _ _ _ _ => pts_nil) (fun _ _ _ _ _ => (pe_op (x_add K) (pv 4) (pe_lst (pa_cons pe_bl pa_nil)))))))))
  (pss_cons (ps_set (i := 5) sc_law_only_in_all_ways.nd rfl (Or.inl rfl) (pe_lst pa_nil))
  (pss_cons (ps_for PassesOwn.never rfl (x_seq K (pv 2)) (pg_name (i := 4) sc_law_only_in_all_ways.nd rfl (Or.inr rfl)) (pss_cons (ps_set (i := 7) sc_law_only_in_all_ways.nd rfl (Or.inl rfl) (pe_callB (x_len K) (by rfl) T.b_len (by decide +kernel) (pa_cons (pe_lc (own := [("flag", 6)]) (g := gName 6) rfl sc_law_only_in_all_ways.nd (x_seq K (pv 4)) (blkOk_by (own := [("flag", 6)]) (N := N_law_only_in_all_ways) (sc := defScope s_law_only_in_all_ways) (by decide +kernel)) (fun _ _ _ _ _ => (pg_name (i := 6) sc_law_only_in_all_ways.nd rfl (Or.inl rfl))) (fun _ _ _ _ _ => (pts_one (pt_val (pv 6)))) (fun _ _ _ _ _ => (pv 6))) pa_nil)))
  (pss_one (ps_if (pt_cmpR op_le (pv 7) (pv 1) (nomark _)) (pss_cons (ps_set (i := 9) sc_law_only_in_all_ways.nd rfl (Or.inr rfl) (pe_lc (own := [("place", 8), ("entry", 3)]) (g := gTup K 2 (gCons (gName 8) (gCons (gName 3) gNil))) rfl sc_law_only_in_all_ways.nd (x_enum K (by rfl) T.b_enumerate (pa_cons (pv 0) pa_nil)) (blkOk_by (own := [("place", 8), ("entry", 3)]) (N := N_law_only_in_all_ways) (sc := defScope s_law_only_in_all_ways) (by decide +kernel)) (fun _ _ _ _ _ => (x_tgt K (pg_tup (by rfl) (pgs_cons (pg_name (i := 8) sc_law_only_in_all_ways.nd rfl (Or.inl rfl)) (pgs_cons (pg_name (i := 3) sc_law_only_in_all_ways.nd rfl (Or.inl rfl)) pgs_nil))))) (fun _ _ _ _ _ => (pts_one (pt_not (pt_val (pe_ix (x_ix K) (pv 4) (pv 8) (fun _ _ => rfl)))))) (fun _ _ _ _ _ => (pv 3))))
  (pss_cons (ps_if (pt_cmpR (x_eq K (by exact hr.units)) (pe_callB (x_len K) (by rfl) T.b_len (by decide +kernel) (pa_cons (pv 9) pa_nil)) pe_int (nomark _)) (pss_one (ps_ret pe_non)) pss_nil)
  (pss_one (ps_if (PW.pt (pw_and (pt_val (pe_callB (x_all K) (by rfl) T.b_all (by decide +kernel) (pa_cons (pe_lc (own := [("entry", 3)]) (g := gName 3) (tt := tYes) rfl sc_law_only_in_all_ways.nd (x_seq K (pv 9)) (blkOk_by (own := [("entry", 3)]) (N := N_law_only_in_all_ways) (sc := defScope s_law_only_in_all_ways) (by decide +kernel)) (fun _ _ _ _ _ => (pg_name (i := 3) sc_law_only_in_all_ways.nd rfl (Or.inl rfl))) (fun _ _ _ _ _ => pts_nil) (fun _ _ _ _ _ => (pe_cmpR (x_eq K (by exact hr.units)) (pv 3) (pe_ix (x_ix K) (pv 9) pe_int (fun _ _ => rfl)) (nomark _)))) pa_nil))) (pw_and1 (pt_cmpR (x_notIn K (by exact hu65 hr)) (pe_ix (x_ix K) (pv 9) pe_int (fun _ _ => rfl)) (pv 5) (by with_unfolding_all rfl))))) (pss_one (ps_expr (pe_bm PySem.F.plainAttrs_list PySem.F.slot_list_append PySem.F.type_list_append mt_append (pv 5) (pa_cons (pe_ix (x_ix K) (pv 9) pe_int (fun _ _ => rfl)) pa_nil)))) pss_nil)))) pss_nil))))
  (pss_one (ps_ret (pe_ifExp (pt_cmpR (x_eq K (by exact hr.units)) (pe_callB (x_len K) (by rfl) T.b_len (by decide +kernel) (pa_cons (pv 5) pa_nil)) pe_int (nomark _)) (pe_ix (x_ix K) (pv 5) pe_int (fun _ _ => rfl)) pe_non))))))), ?_⟩
    show WS _ _ [.val (.lst (E.map entD)), .val (.int could), .un, .un, .un, .un, .un, .un, .un, .un] n _
    have hpow : ∀ i, i ≤ 18 → 2 ^ i ≤ 262144 := fun i hi => Nat.le_trans (Nat.pow_le_pow_right (by decide) hi) (by decide)
    -- ways = [[]]
    walk_at "ws1"
    walk_at "ws1"
    walk_at "go"
    refine ⟨Nat.zero_le _, ?_⟩
    walk_at "go"
    refine ⟨Nat.le_of_ble_eq_true rfl, ?_⟩
    walk_at "ws1"
    refine ws_for ?_
    walk_at "we1"
    walk_at "we1"
    refine ⟨_, rfl, fun i m ρ => m = n ∧ ∃ x3 x4, ρ = rO E could (allWays i) x3 x4 .un .un .un .un .un, ⟨rfl, _, _, rfl⟩, ?_, ?_⟩
    · rintro i m ρ1 d hd ⟨rfl, x3, x4, rfl⟩
      obtain ⟨e, he, rfl, hm, tk⟩ := map_at hd
      have hi : i < E.length := (List.getElem?_eq_some_iff.mp he).1
      have hw := ways_len i
      have hwl : (allWays i).length ≤ 262144 := by rw [hw]; exact hpow i (by omega)
      walk_at "go"
      walk_at "ws1"
      walk_at "go"
      refine wf_we (wf_map (addT true) (fun _ => true) ?_)
      walk_at "we1"
      walk_at "we1"
      refine ⟨_, rfl, by rw [List.length_map]; omega, fun d hd m => ?_, ?_⟩
      · obtain ⟨w1, hw1, rfl⟩ := List.mem_map.mp hd
        have hl1 := (ways_mem i w1).mp hw1
        walk_at "go"
        refine ⟨rfl, rfl, fun _ => ?_⟩
        walk_at "go"
        refine ⟨Nat.le_of_ble_eq_true rfl, ?_⟩
        refine r2_cat (by rw [List.length_map, hl1]; show _ + 1 ≤ _; omega) ?_
        exact ⟨rfl, rfl⟩
      walk_at "go"
      refine wf_we (wf_map (addT false) (fun _ => true) ?_)
      walk_at "we1"
      walk_at "we1"
      refine ⟨_, rfl, by rw [List.length_map]; omega, fun d hd m => ?_, ?_⟩
      · obtain ⟨w1, hw1, rfl⟩ := List.mem_map.mp hd
        have hl1 := (ways_mem i w1).mp hw1
        walk_at "go"
        refine ⟨rfl, rfl, fun _ => ?_⟩
        walk_at "go"
        refine ⟨Nat.le_of_ble_eq_true rfl, ?_⟩
        refine r2_cat (by rw [List.length_map, hl1]; show _ + 1 ≤ _; omega) ?_
        exact ⟨rfl, rfl⟩
      rw [filt_all]
      have ew : ∀ b, ((allWays i).map wayD).map (addT b) = ((allWays i).map (· ++ [b])).map wayD := fun b => by
        rw [List.map_map, List.map_map]
        exact List.map_congr_left fun w _ => addT_way b w
      rw [ew, ew]
      refine r2_cat (by rw [List.length_map, List.length_map, List.length_map, List.length_map]; omega) ?_
      rw [← List.map_append]
      exact ⟨rfl, _, _, rfl⟩
    · rintro m ρ1 ⟨rfl, x3, x4, rfl⟩
      rw [List.length_map]
      have hwl : (allWays E.length).length ≤ 262144 := by rw [ways_len]; exact hpow _ hE
      have hwm := ways_mem E.length
      have hiff := way_iff E could
      have hnone := way_none E could
      generalize allWays E.length = W at hwl hwm hiff hnone
      -- found = []
      walk_at "ws1"
      refine ws_own (i := 5) (Nat.le_of_ble_eq_true rfl) (wf_lst (wa_nil ⟨Nat.zero_le _, ?_⟩))
      walk_at "ws1"
      refine ws_for ?_
      walk_at "we1"
      walk_at "we1"
      refine ⟨_, rfl, fun i m' ρ => m' = m ∧ ∃ x3 x4 x6 x7 x8 x9 F, ρ = rO E could W x3 x4 (.own (F.map entD)) x6 x7 x8 x9 ∧ FInv E could W i F, ⟨rfl, x3, x4, _, _, _, _, [], rfl, List.nodup_nil, fun x => by simp, fun w h => by simp at h, fun x h => nomatch h⟩, ?_, ?_⟩
      · rintro i m2 ρ1 d hd ⟨rfl, x3, x4, x6, x7, x8, x9, F, rfl, hFI⟩
        obtain ⟨nF, hF, hr, hFE⟩ := id hFI
        obtain ⟨w1, hw1, rfl, hm, tk⟩ := map_at hd
        have hl1 := (hwm w1).mp hm
        have hFl : F.length ≤ 18 := Nat.le_trans (nodup_le F E nF hFE) hE
        walk_at "go"
        walk_at "ws1"
        walk_at "ws1"
        walk_at "we1"
        refine wa_cons (wf_we (wf_map id isT ?_))
        walk_at "we1"
        walk_at "we1"
        refine ⟨_, rfl, by rw [List.length_map]; omega, fun d hd m => ?_, ?_⟩
        · obtain ⟨b1, _, rfl⟩ := List.mem_map.mp hd
          walk_at "go"
          refine ⟨rfl, rfl, fun _ => ?_⟩
          walk_at "go"
          exact ⟨rfl, rfl⟩
        walk_at "go"
        rw [List.map_id, filt_bl]
        walk_at "ws1"
        walk_at "go"
        have keep : (could < (trues w1 : Nat) ∨ ((trues w1 : Nat) ≤ could ∧ restOf E w1 ≠ [] ∧ ∀ x, okWay E could x w1 → x ∈ F)) → FInv E could W (i + 1) F := by
          intro hk
          refine ⟨nF, fun x => ?_, fun w hw => ?_, hFE⟩
          · rw [hF, tk]
            constructor
            · rintro ⟨w, h1, h2⟩; exact ⟨w, List.mem_append_left _ h1, h2⟩
            · rintro ⟨w, h1, h2⟩
              rcases List.mem_append.mp h1 with q | q
              · exact ⟨w, q, h2⟩
              · have e := List.mem_singleton.mp q
                subst e
                rcases hk with hk | ⟨_, _, hk⟩
                · have := h2.1; omega
                · exact (hF x).mp (hk x h2)
          · rw [tk] at hw
            intro h1
            rcases List.mem_append.mp hw with q | q
            · exact hr w q h1
            · have e := List.mem_singleton.mp q
              subst e
              rcases hk with hk | ⟨_, hk, _⟩
              · omega
              · exact hk
        refine dec2 (fun hle => ?_) (fun hle => ?_)
        · walk_at "ws1"
          walk_at "ws1"
          refine wf_we (wf_map secE (lefts w1) ?_)
          walk_at "we1"
          walk_at "we1"
          walk_at "we1"
          walk_at "we1"
          refine ⟨_, rfl, ?_⟩
          refine ⟨by rw [enumD_len, List.length_map]; omega, fun d hd m => ?_, ?_⟩
          · obtain ⟨j, hj⟩ := List.getElem?_of_mem hd
            obtain ⟨e, he, rfl⟩ := enumD_get hj
            obtain ⟨x, hx, rfl, hxm, _⟩ := map_at he
            have hjl : j < w1.length := by
              have := (List.getElem?_eq_some_iff.mp hx).1; omega
            have hz : (0 : Int) + (j : Nat) = (j : Nat) := by omega
            rw [hz]
            walk_at "go"
            have hat : ixD (wayD w1) ((j : Nat) : Int) = some (.bl w1[j]) := (atI_nat (by rw [List.getElem?_map, List.getElem?_eq_getElem hjl]; rfl) : atI (w1.map D.bl) ((j : Nat) : Int) = some (.bl w1[j]))
            refine r2_ix hat ⟨_, rfl, rfl, ?_, fun _ => ?_⟩
            · show _ = !(w1.getD (((j : Nat) : Int)).toNat true)
              rw [Int.toNat_natCast, List.getD_eq_getElem?_getD, List.getElem?_eq_getElem hjl]; rfl
            walk_at "go"
            exact ⟨rfl, rfl⟩
          have er := rest_enum w1 E w1 [] rfl hl1
          have e0 : (((([] : List Bool).length : Nat)) : Int) = 0 := rfl
          rw [e0] at er
          rw [er]
          have hrl := rest_len E w1 hl1
          have hrs := rest_sub E w1
          cases hR : restOf E w1 with
          | nil =>
            walk_at "ws1"
            walk_at "ws1"
            walk_at "go"
            refine itT rfl ?_
            walk_at "ws1"
            walk_at "go"
            refine kk _ (fun _ => rfl) fun hlt => ?_
            have := hnone.mp ⟨w1, hm, hle, hR⟩
            omega
          | cons x0 R =>
            rw [hR] at hrl hrs
            have hx0 := hrs x0 List.mem_cons_self
            walk_at "ws1"
            walk_at "ws1"
            walk_at "go"
            have hne : ¬ ((((x0 :: R).map entD).length : Nat) : Int) = 0 := by simp; omega
            refine decF hne ?_
            walk_at "ws1"
            have okx0 := hok x0 hx0
            have h00 : ixD (.lst ((x0 :: R).map entD)) 0 = some (entD x0) := (atI_nat rfl : atI ((x0 :: R).map entD) ((0 : Nat) : Int) = some _)
            refine ws_if (wt_look 5 rfl (wt_and (wt_B (we_cb (wa_cons (wf_we (wf_map (fun d => .bl (eqD d (entD x0))) (fun _ => true) ?_)))))))
            walk_at "we1"
            walk_at "we1"
            refine ⟨_, rfl, ?_, fun d hd m => ?_, ?_⟩
            · rw [List.length_map]; omega
            · obtain ⟨y, hy, rfl⟩ := List.mem_map.mp hd
              walk_at "go"
              refine ⟨rfl, rfl, fun _ => ?_⟩
              walk_at "go"
              refine r2_ix h00 ?_
              exact r2_eqD (hok y (hrs y hy)).1 okx0.1 ⟨rfl, rfl⟩
            rw [filt_all, all_same]
            refine wa_nil (rc_all ?_)
            refine ⟨_, rfl, ?_⟩
            have hall : (((x0 :: R).map fun e => decide (e = x0)).all id = true) ↔ ∀ y ∈ x0 :: R, y = x0 := by
              rw [List.all_map, List.all_eq_true]
              exact ⟨fun h y hy => of_decide_eq_true (h y hy), fun h y hy => decide_eq_true (h y hy)⟩
            have okx : ∀ x, okWay E could x w1 → x = x0 ∧ ∀ y ∈ x0 :: R, y = x0 := fun x ⟨_, _, h3⟩ => by
              rw [hR] at h3
              have e := h3 x0 List.mem_cons_self
              refine ⟨e.symm, fun y hy => ?_⟩
              rw [h3 y hy, e]
            refine boo2 (fun hb => ?_) (fun hb => ?_)
            · walk_at "go"
              refine r2_ix h00 ?_
              walk_at "go"
              refine r2_notIn rfl okx0.1 (fit_ents fun e he => hok e (hFE e he)) ?_
              refine ⟨_, rfl, ?_⟩
              rw [inD_ent]
              refine decN (fun hin => ?_) (fun hin => ?_)
              · refine ws_append (i := 5) (ds := F.map entD) rfl ?_
                walk_at "go"
                refine r2_ix h00 ?_
                refine ⟨by rw [List.length_map, sizeLine_eq]; omega, rfl, x3, .val (wayD w1), x6, .val (.int (trues w1 : Nat)), x8, .val (.lst ((x0 :: R).map entD)), F ++ [x0], ?_, ?_⟩
                · rw [← app_ent]; rfl
                have okw : okWay E could x0 w1 := ⟨hle, by rw [hR]; simp, by rw [hR]; exact hall.mp hb⟩
                refine ⟨List.nodup_append.mpr ⟨nF, by simp, fun a ha b hb => by rw [List.mem_singleton.mp hb]; exact fun e => hin (e ▸ ha)⟩, fun x => ?_, fun w hw => ?_, fun x hx => ?_⟩
                · rw [List.mem_append, hF, tk]
                  constructor
                  · rintro (⟨w, h1, h2⟩ | h)
                    · exact ⟨w, List.mem_append_left _ h1, h2⟩
                    · rw [List.mem_singleton.mp h]
                      exact ⟨w1, List.mem_append_right _ List.mem_cons_self, okw⟩
                  · rintro ⟨w, h1, h2⟩
                    rcases List.mem_append.mp h1 with q | q
                    · exact .inl ⟨w, q, h2⟩
                    · have e := List.mem_singleton.mp q
                      subst e
                      exact .inr (List.mem_singleton.mpr (okx x h2).1)
                · rw [tk] at hw
                  intro h1
                  rcases List.mem_append.mp hw with q | q
                  · exact hr w q h1
                  · have e := List.mem_singleton.mp q
                    subst e
                    rw [hR]; simp
                · rcases List.mem_append.mp hx with q | q
                  · exact hFE x q
                  · rw [List.mem_singleton.mp q]; exact hx0
              · walk_at "ws1"
                exact ⟨rfl, _, _, _, _, _, _, F, rfl, keep (.inr ⟨hle, by rw [hR]; simp, fun x hx => by rw [(okx x hx).1]; exact hin⟩)⟩
            · refine itF rfl ?_
              walk_at "ws1"
              refine ⟨rfl, _, _, _, _, _, _, F, rfl, keep (.inr ⟨hle, by rw [hR]; simp, fun x hx => ?_⟩)⟩
              rw [hall.mpr (okx x hx).2] at hb
              cases hb
        · walk_at "ws1"
          exact ⟨rfl, _, _, _, _, _, _, F, rfl, keep (.inl (by omega))⟩
      · rintro m2 ρ1 ⟨rfl, x3, x4, x6, x7, x8, x9, F, rfl, hFI⟩
        obtain ⟨nF, hF, hr, hFE⟩ := id hFI
        have hFl : F.length ≤ 18 := Nat.le_trans (nodup_le F E nF hFE) hE
        rw [List.length_map, List.take_length] at hF hr
        refine ws_freeze 5 rfl ?_
        walk_at "ws1"
        have kF : Φ m2 (oneD F) := by
          refine kk _ (fun hge => ?_) fun hlt G nG hG => ?_
          · obtain ⟨w, h1, h2, h3⟩ := hnone.mpr hge
            exact absurd h3 (hr w h1 h2)
          · exact oneD_same nF nG fun x => by rw [hG, hF]; exact hiff x hlt
        walk_at "go"
        refine dec2 (fun h1 => ?_) (fun h1 => ?_)
        · obtain ⟨x, rfl⟩ : ∃ x, F = [x] := by
            match F, h1 with
            | [x], _ => exact ⟨x, rfl⟩
            | [], h => simp at h
            | _ :: _ :: _, h => simp at h; omega
          walk_at "go"
          exact kF
        · walk_at "go"
          rw [oneD_non (fun q => h1 (by rw [List.length_map, q]; rfl))] at kF
          exact kF
end
end Toy
namespace L3
open PySem L2
/-- a def with a raw promise, as its callers see it -/
structure Dr (P : Program) (w : World) (K : PySem.W.Frag) (mg : Str → Option Value) (base : Heap) (x : Str) (k : Nat) (ps : List Str) (S : Sp) where
  f : Addr
  fd : FuncData
  G : FnOk P w K mg base CX0 k f fd ps S
  m : mg x = some (.ref f)
  k : PySem.W.keepIn K (.ref f) = true
  b : Binds K fd ps []
  v : Vals [] []
theorem we_slA {c : Ctx} {ρ : List SD} {n : Nat} {tl th : TO} {Φ : Nat → D → Prop} {i : Nat} {a : Addr} {ns : List Int} (hB : c.bag = none) (hS : SqL c.K c.H0 a (ns.map V.int)) (hi : ρ[i]? = some (.val (.adr a)))
    (h : WO c tl ρ n fun n2 lo => WO c th ρ n2 fun n3 hi => Φ n3 (.lst (cutD (ns.map .int) lo hi))) : WE c (tSl (rSlS3 c.K) (tVar i) tl th) ρ n Φ := fun P L σ H Q E q => by
  refine we_var (Φ := fun n1 d => n1 = n ∧ d = .adr a) hi ⟨rfl, rfl⟩ P L σ H _ E fun x d n1 H1 s1 j1 r1 ⟨e1, e2⟩ => ?_
  subst e1; subst e2
  have E1 := E.step s1 j1
  refine h P L σ H1 _ E1 fun lo n2 H2 s2 j2 h2 => ?_
  have E2 := E1.step s2 j2
  refine h2 P L σ H2 _ E2 fun hi n3 H3 s3 j3 k => ?_
  have E3 := E2.step s3 j3
  have s := (s1.trans s2).trans s3
  cases r1
  have hb : Same c.H0 H3 := fun o u e => by
    have hz : o ∉ c.B := fun q => by
      unfold Ctx.B at q
      rw [hB] at q
      cases q
    exact (hid_some.mp (E3.base o u (hid_some.mpr ⟨hz, e⟩))).2
  refine .inl ⟨_, _, rfl, same_l hb hS, fun p hp => ?_⟩
  have z := E3.newT (o := .lst (cutV (ns.map V.int) lo hi)) hp
  have ra : ∀ (H : Hp) (ns : List Int), RpAll c.K H (ns.map V.int) (ns.map D.int) := fun H ns => by
    induction ns with
    | nil => exact .nil
    | cons x ns ih => exact .cons (.int x) ih
  exact q _ _ n3 _ (s.trans z.1) z.2.1 (.lst (.inl (hid_at z.2.2)) ((ra _ ns).cut lo hi)) k
end L3
namespace Toy
open PySem L2 L3
local macro_rules | `(tactic| walk_at "we1") => `(tactic| first
  | ((with_reducible refine' we_var ?hv ?_); (case hv => rfl))
  | (with_reducible refine we_int ?_)
  | (with_reducible refine we_str ?_)
  | (with_reducible refine we_bl ?_)
  | (with_reducible refine we_non ?_)
  | ((with_reducible refine' we_dix ?hv ?_); (case hv => rfl))
  | (with_reducible refine we_op ?_)
  | ((with_reducible refine' we_dget ?hv ?_); (case hv => rfl))
  | (with_reducible refine we_count ?_)
  | (with_reducible refine we_cb ?_)
  | (with_reducible refine we_call0 ?_)
  | (with_reducible refine we_tup ?_)
  | (with_reducible refine we_lst ?_)
  | (with_reducible refine we_if ?_)
  | (with_reducible refine we_not ?_)
  | (with_reducible refine we_and ?_)
  | (with_reducible refine we_or ?_)
  | (with_reducible refine we_isN ?_)
  | (with_reducible refine we_notN ?_)
  | (with_reducible refine we_sl ?_)
  | (with_reducible refine wa_cons ?_)
  | (with_reducible refine wa_nil ?_)
  | (with_reducible refine wt_test ?_)
  | (with_reducible refine wt_B ?_)
  | (with_reducible refine wt_and ?_)
  | (with_reducible refine wt_or ?_)
  | (with_reducible refine wt_not ?_)
  | (with_reducible refine wt_yes ?_)
  | (with_reducible refine wo_none ?_)
  | (with_reducible refine wo_some ?_)
  | ((with_reducible refine' r2_ix ?hx ?_); (case hx => rfl))
  | (with_reducible refine r2_isN ?_)
  | (with_reducible refine r2_notN ?_)
  | (with_reducible refine r2_lt ?_)
  | (with_reducible refine r2_le ?_)
  | (with_reducible refine r2_gt ?_)
  | (with_reducible refine r2_ge ?_)
  | (with_reducible refine r2_sub ?_)
  | (with_reducible refine r2_addI ?_)
  | (with_reducible refine r2_eqI ?_)
  | (with_reducible refine r2_neI ?_)
  | (with_reducible refine rc_int ?_)
  | (with_reducible refine rc_abs ?_)
  | ((with_reducible refine' rc_len ?hl ?_); (case hl => rfl))
  | (with_reducible refine wi_seq ?_)
  | (with_reducible refine wi_rng1 ?_)
  | (with_reducible refine wi_rng2 ?_)
  | (with_reducible refine wi_enum ?_)
  | (refine ⟨_, rfl, ?_⟩))
local macro_rules | `(tactic| walk_at "ws1") => `(tactic| first
  | (with_reducible refine ws_seq ?_)
  | (with_reducible refine ws_set ?_)
  | (with_reducible refine ws_ret ?_)
  | (with_reducible refine ws_if ?_)
  | (with_reducible refine ws_next ?_)
  | (with_reducible refine ws_asg ?_))
local macro_rules | `(tactic| walk_at "wg1") => `(tactic| first
  | (with_reducible refine wg_name (rw_name (by decide)) ?_)
  | (with_reducible refine wg_name (fun _ _ => trivial) ?_)
  | ((with_reducible refine' wg_tup ?hl ?_); (case hl => rfl))
  | (with_reducible refine wgs_cons rw_trans ?_)
  | (with_reducible refine wgs_nil rw_refl ?_)
  | (with_reducible refine wgs_cons (fun _ _ _ _ _ => trivial) ?_)
  | (with_reducible refine wgs_nil (fun _ => trivial) ?_))
local macro_rules | `(tactic| walk_at "go") => `(tactic| repeat' (first | walk_at "we1" | walk_at "wg1"))
section
variable {P : Program} {w : World} {K : PySem.W.Frag} {mg : Str → Option Value} {base : Heap}
def spBag (K : PySem.W.Frag) : Sp := fun vs H Q _ => ∃ (a : Addr) (ns : List Int), vs = [.ref a] ∧ SqL K H a (ns.map V.int) ∧ ns.length ≤ 63 ∧
  ∀ (b q : Addr) (cs : List Int) (H' : Hp), q ≠ b → H' b = some (.lst [.ref q, .int 0, .int 0]) → H' q = some (.lst (cs.map V.int)) → cs ≠ [] → (∀ c ∈ cs, 0 ≤ c) → cs.length ≤ 63 → Q (.ref b) H'
def absD : D → D
  | .int i => .int (if i < 0 then -i else i)
  | d => d
abbrev s_law_bag : Stmt := top 4
abbrev N_law_bag : List Str := ["script", "cell", "cells"]
theorem sc_law_bag : FnScope N_law_bag ["script"] (defScope s_law_bag) := ⟨rfl, rfl, rfl, by decide +kernel, rfl, by decide +kernel, by decide +kernel⟩

theorem ok_bag {f : Addr} {fd : FuncData} (F : Fun K "_law_bag" "_law_bag" s_law_bag f fd) (T : Txt mg) : FnOk P w K mg base CX0 1 f fd ["script"] (spBag K) := by
  refine F.ok sc_law_bag (fun vs H Q E h => ?_) (fun cdv A outer s H vs Q E hr h => ?_)
  · obtain ⟨a, ns, rfl, _⟩ := h
    rfl
  · obtain ⟨a, ns, rfl, hS, hlen, k⟩ := h
    refine ⟨_, (pss_cons (ps_setLc (i := 2) (own := [("cell", 1)]) (g := gName 1) (tt := tYes) rfl sc_law_bag.nd rfl rfl (sw_true rfl rfl rfl (by decide +kernel)) (x_seq K (pe_slice (x_sl K) (pv 0) po_none (po_some pe_int))) (blkOk_by (own := [("cell", 1)]) (N := N_law_bag) (sc := defScope s_law_bag) (by decide +kernel)) (fun _ _ _ _ _ => (pg_name (i := 1) sc_law_bag.nd rfl (Or.inl rfl))) (fun _ _ _ _ _ => pts_nil) (fun _ _ _ _ _ => (pe_callB call_absX (by rfl) T.b_abs (by decide +kernel) (pa_cons (pv 1) pa_nil))))
  (pss_cons (ps_if (pt_cmpR (x_eq K (by exact hr.units)) (pe_callB (x_len K) (by rfl) T.b_len (by decide +kernel) (pa_cons (pv 2) pa_nil)) pe_int (nomark _)) (pss_one (ps_set (i := 2) sc_law_bag.nd rfl (Or.inl rfl) (pe_lst (pa_cons pe_int pa_nil)))) pss_nil)
  (pss_one (ps_ret (pe_lst (pa_cons (pv 2) (pa_cons pe_int (pa_cons pe_int pa_nil)))))))), ?_⟩
    refine st_seq ?_
    refine' (?W1 : WS ⟨P, w, K, [], none, H⟩ _ [.val (.adr a), .un, .un] 0 { nx := fun n1 ρ1 => ∃ cs : List Int, ρ1 = [.val (.adr a), .un, .own (cs.map .int)] ∧ cs.length ≤ 63 ∧ ∀ c ∈ cs, 0 ≤ c, rt := fun _ _ => False }) (fun _ => none) [] _ H _ ?E1 ?A1
    case E1 =>
      exact { nd := List.nodup_nil, fresh := (fun l hl => nomatch hl), slots := ⟨[], .val (.adr a) (.un (.un .nil)), List.Sublist.refl _⟩, lst := (fun l hl => nomatch hl), bag := (fun b q e => nomatch e), base := Same.refl _,
              pers := (fun _ _ e => nomatch e), bO := (fun b q e => nomatch e), al := (fun o ho => nomatch ho) }
    case W1 =>
      refine ws_own (i := 2) (Nat.le_of_ble_eq_true rfl) (wf_map absD (fun _ => true) ?_)
      refine wi_seq (we_slA (a := a) (ns := ns) rfl hS rfl ?_)
      walk_at "go"
      obtain ⟨ys, e1, e2⟩ := cut_map D.int ns none (some 63)
      have hy := e2.length_le
      rw [e1]
      refine ⟨by rw [List.length_map]; omega, fun d hd m => ?_, ?_⟩
      · obtain ⟨y, hy, rfl⟩ := List.mem_map.mp hd
        walk_at "go"
        refine ⟨rfl, rfl, fun _ => ?_⟩
        walk_at "go"
        exact ⟨rfl, rfl⟩
      rw [filt_all]
      refine ⟨ys.map fun i => if i < 0 then -i else i, ?_, by rw [List.length_map]; omega, fun c hc => ?_⟩
      · rw [List.map_map, List.map_map]; rfl
      · obtain ⟨y, _, rfl⟩ := List.mem_map.mp hc
        by_cases q : y < 0
        · rw [if_pos q]; omega
        · rw [if_neg q]; omega
    refine { nx := fun L n H1 σ1 ρ1 E1 ⟨cs, e, h1, h2⟩ => ?_, rt := fun _ _ _ _ _ _ _ h => h.elim, bk := fun _ _ _ _ _ _ h => h.elim, ct := fun _ _ _ _ _ _ h => h.elim }
    subst e
    dsimp only
    refine st_seq ?_
    refine' (?W2 : WS ⟨P, w, K, [], none, H⟩ _ [.val (.adr a), .un, .own (cs.map .int)] n { nx := fun n1 ρ1 => ∃ cs : List Int, ρ1 = [.val (.adr a), .un, .own (cs.map .int)] ∧ cs.length ≤ 63 ∧ (∀ c ∈ cs, 0 ≤ c) ∧ cs ≠ [], rt := fun _ _ => False }) _ L σ1 H1 _ E1 ?A2
    case W2 =>
      refine ws_if (wt_look 2 rfl ?_)
      walk_at "go"
      refine dec2 (fun hz => ?_) (fun hz => ?_)
      · refine ws_own (i := 2) (Nat.le_of_ble_eq_true rfl) ?_
        refine wf_lst ?_
        walk_at "go"
        exact ⟨Nat.le_of_ble_eq_true rfl, [5], rfl, by decide, by decide, by decide⟩
      · walk_at "ws1"
        refine ⟨cs, rfl, h1, h2, fun q => ?_⟩
        subst q
        exact hz rfl
    refine { nx := fun L n H2 σ2 ρ2 E2 ⟨cs, e, h1, h2, h3⟩ => ?_, rt := fun _ _ _ _ _ _ _ h => h.elim, bk := fun _ _ _ _ _ _ h => h.elim, ct := fun _ _ _ _ _ _ h => h.elim }
    subst e
    obtain ⟨l, xs, g1, g2, g3, _⟩ := E2.own_at (i := 2) rfl
    have ex := g3.ints
    subst ex
    refine ⟨_, g1, Nat.le_of_ble_eq_true rfl, fun p hp => ?_⟩
    have npl : l ≠ p := fun e => by rw [← e, g2] at hp; cases hp
    exact k p l cs _ npl upd_same (by rw [upd_ne npl]; exact g2) h3 h2 h1
end
end Toy
namespace Toy
open PySem L2 L3
local macro_rules | `(tactic| walk_at "we1") => `(tactic| first
  | ((with_reducible refine' we_var ?hv ?_); (case hv => rfl))
  | (with_reducible refine we_int ?_)
  | (with_reducible refine we_str ?_)
  | (with_reducible refine we_bl ?_)
  | (with_reducible refine we_non ?_)
  | ((with_reducible refine' we_dix ?hv ?_); (case hv => rfl))
  | (with_reducible refine we_op ?_)
  | ((with_reducible refine' we_dget ?hv ?_); (case hv => rfl))
  | (with_reducible refine we_count ?_)
  | (with_reducible refine we_cb ?_)
  | (with_reducible refine we_call0 ?_)
  | (with_reducible refine we_tup ?_)
  | (with_reducible refine we_lst ?_)
  | (with_reducible refine we_if ?_)
  | (with_reducible refine we_not ?_)
  | (with_reducible refine we_and ?_)
  | (with_reducible refine we_or ?_)
  | (with_reducible refine we_isN ?_)
  | (with_reducible refine we_notN ?_)
  | (with_reducible refine we_sl ?_)
  | (with_reducible refine wa_cons ?_)
  | (with_reducible refine wa_nil ?_)
  | (with_reducible refine wt_test ?_)
  | (with_reducible refine wt_B ?_)
  | (with_reducible refine wt_and ?_)
  | (with_reducible refine wt_or ?_)
  | (with_reducible refine wt_not ?_)
  | (with_reducible refine wt_yes ?_)
  | (with_reducible refine wo_none ?_)
  | (with_reducible refine wo_some ?_)
  | ((with_reducible refine' r2_ix ?hx ?_); (case hx => rfl))
  | (with_reducible refine r2_isN ?_)
  | (with_reducible refine r2_notN ?_)
  | (with_reducible refine r2_lt ?_)
  | (with_reducible refine r2_le ?_)
  | (with_reducible refine r2_gt ?_)
  | (with_reducible refine r2_ge ?_)
  | (with_reducible refine r2_sub ?_)
  | (with_reducible refine r2_addI ?_)
  | (with_reducible refine r2_eqI ?_)
  | (with_reducible refine r2_neI ?_)
  | (with_reducible refine rc_int ?_)
  | (with_reducible refine rc_abs ?_)
  | ((with_reducible refine' rc_len ?hl ?_); (case hl => rfl))
  | (with_reducible refine wi_seq ?_)
  | (with_reducible refine wi_rng1 ?_)
  | (with_reducible refine wi_rng2 ?_)
  | (with_reducible refine wi_enum ?_)
  | (refine ⟨_, rfl, ?_⟩))
local macro_rules | `(tactic| walk_at "ws1") => `(tactic| first
  | (with_reducible refine ws_seq ?_)
  | (with_reducible refine ws_set ?_)
  | (with_reducible refine ws_ret ?_)
  | (with_reducible refine ws_if ?_)
  | (with_reducible refine ws_next ?_)
  | (with_reducible refine ws_asg ?_))
local macro_rules | `(tactic| walk_at "wg1") => `(tactic| first
  | (with_reducible refine wg_name (rw_name (by decide)) ?_)
  | (with_reducible refine wg_name (fun _ _ => trivial) ?_)
  | ((with_reducible refine' wg_tup ?hl ?_); (case hl => rfl))
  | (with_reducible refine wgs_cons rw_trans ?_)
  | (with_reducible refine wgs_nil rw_refl ?_)
  | (with_reducible refine wgs_cons (fun _ _ _ _ _ => trivial) ?_)
  | (with_reducible refine wgs_nil (fun _ => trivial) ?_))
local macro_rules | `(tactic| walk_at "go") => `(tactic| repeat' (first | walk_at "we1" | walk_at "wg1"))
theorem eq_self {d : D} (h : fit d = true) : eqD d d = true := SeqAt.eqv_refl _ (SeqAt.canLay_of_shaped (fit_s h))
def GC (cs : List (List Ent)) : Prop := cs.length ≤ 6 ∧ ∀ es ∈ cs, es.length ≤ 3 ∧ ∀ e ∈ es, okE e ∧ e.ks.length ≤ 2
theorem GC.all {cs : List (List Ent)} (h : GC cs) : ∀ es ∈ cs, es.length ≤ 100 ∧ ∀ e ∈ es, okE e := fun es he => ⟨Nat.le_trans (h.2 es he).1 (by decide), fun e q => ((h.2 es he).2 e q).1⟩
theorem GC.len {cs : List (List Ent)} (h : GC cs) : cs.length ≤ 100 := Nat.le_trans h.1 (by decide)
theorem told_mem {cs : List (List Ent)} {nm : Str} {k : Option (List Int)} {e : Ent} (h : e ∈ toldOf cs nm k) : ∃ es ∈ cs, e ∈ es := by
  unfold toldOf at h
  obtain ⟨l, hl1, hl2⟩ := List.mem_flatten.mp h
  obtain ⟨es, he1, rfl⟩ := List.mem_map.mp hl1
  exact ⟨es, he1, (List.mem_filter.mp hl2).1⟩
theorem GC.told {cs : List (List Ent)} (h : GC cs) (nm : Str) (k : Option (List Int)) : (toldOf cs nm k).length ≤ 18 ∧ ∀ e ∈ toldOf cs nm k, okE e ∧ e.ks.length ≤ 2 := by
  refine ⟨?_, fun e he => ?_⟩
  · have h1 := flat_len (cs.map fun es => es.filter (hits nm k)) 3 fun x hx => by
      obtain ⟨es, he, rfl⟩ := List.mem_map.mp hx
      exact Nat.le_trans (List.length_filter_le _ _) (h.2 es he).1
    rw [List.length_map] at h1
    have := h.1
    unfold toldOf
    omega
  · obtain ⟨es, h1, h2⟩ := told_mem he
    exact (h.2 es h1).2 e h2
theorem fit_pair {e : Ent} (h : okE e) (i : Int) : fit (pairD (entD e, i)) = true ∧ (dpy (pairD (entD e, i))).depth ≤ 60 := by
  have hd := depth_E e
  refine ⟨(fit_list (ds := [entD e, .int i]) fun d hd' => ?_).2, ?_⟩
  · rcases List.mem_cons.mp hd' with q | q
    · subst q; exact ⟨h.1, by omega⟩
    · rw [List.mem_singleton.mp q]; exact ⟨rfl, Nat.zero_le _⟩
  · show max (dpy (entD e)).depth (max 0 0) + 1 ≤ 60
    have : max (dpy (entD e)).depth (max 0 0) ≤ 2 := Nat.max_le.mpr ⟨hd, by decide⟩
    omega
theorem ok_firsts {E : List Ent} (h : ∀ e ∈ E, okE e) : ∀ e ∈ sortE (firsts E), okE e := fun e he => h e ((mem_firsts E e).mp ((sortE_perm _).mem_iff.mp he))
theorem fit_counted {E : List Ent} (h : ∀ e ∈ E, okE e) : fit (.tup (countedD E)) = true := (fit_list fun d hd => by
  obtain ⟨e, he, rfl⟩ := List.mem_map.mp hd
  exact fit_pair (ok_firsts h e he) _).2
theorem fit_copies {cs : List (List Ent)} (h : GC cs) : fit (.lst (cs.map copyD)) = true := (fit_list fun d hd => by
  obtain ⟨es, he, rfl⟩ := List.mem_map.mp hd
  refine ⟨(fit_list fun d hd => ?_).2, ?_⟩
  · obtain ⟨e, hee, rfl⟩ := List.mem_map.mp hd
    exact ⟨((h.2 es he).2 e hee).1.1, Nat.le_trans (depth_E e) (by decide)⟩
  · show PyData.depthAll (dpyAll (es.map entD)) + 1 ≤ 60
    have : ∀ l : List Ent, PyData.depthAll (dpyAll (l.map entD)) ≤ 2 := fun l => by
      induction l with
      | nil => exact Nat.zero_le _
      | cons x l ih => exact Nat.max_le.mpr ⟨depth_E x, ih⟩
    have := this es
    omega).1
theorem prs_pair (E L : List Ent) : (prs E L).map pairD = L.map fun e => pairD (entD e, ((E.count e : Nat) : Int)) := by
  unfold prs
  rw [List.map_map]; rfl
theorem due_is {E L : List Ent} {could : Int} (h0 : 0 ≤ could) (nL : L.Nodup) (hL : ∀ x, x ∈ L ↔ x ∈ E) {d : D} (h1 : (E.length : Int) ≤ could → d = .non)
    (h2 : could < E.length → ∀ F : List Ent, F.Nodup → (∀ x, x ∈ F ↔ x ∈ E ∧ (E.length : Int) - (E.count x : Nat) ≤ could) → d = oneD F) : sureD (prs E L) could = d := by
  by_cases q : (E.length : Int) ≤ could
  · rw [h1 q, sure_few nL hL q]
  · have q' : could < E.length := by omega
    have hF : ∀ x, x ∈ (firsts E).filter (fun x => decide ((E.length : Int) - (E.count x : Nat) ≤ could)) ↔ x ∈ E ∧ (E.length : Int) - (E.count x : Nat) ≤ could := fun x => by
      rw [List.mem_filter, mem_firsts, decide_eq_true_iff]
    have nF : ((firsts E).filter (fun x => decide ((E.length : Int) - (E.count x : Nat) ≤ could))).Nodup := (nodup_firsts E).filter _
    rw [h2 q' _ nF hF, sure_is h0 nL hL nF q' hF]
theorem due_fit {E L : List Ent} {could : Int} (h : ∀ x ∈ L, okE x) : fit (sureD (prs E L) could) = true := by
  unfold sureD
  cases hf : fitsD (prs E L) (prs E L) could with
  | nil => rfl
  | cons x l =>
    cases l with
    | cons y l => rfl
    | nil =>
      have hx : x ∈ fitsD (prs E L) (prs E L) could := by rw [hf]; exact List.mem_cons_self
      unfold fitsD at hx
      obtain ⟨p, hp, rfl⟩ := List.mem_map.mp hx
      obtain ⟨y, hy, rfl⟩ := List.mem_map.mp (List.mem_filter.mp hp).1
      exact (h y hy).1
theorem last_at {α : Type} (f : α → D) (l : List α) (h : 0 < l.length) : ∃ x ∈ l, atI (l.map f) (-1) = some (f x) := by
  have hl : l.length - 1 < l.length := by omega
  refine ⟨l[l.length - 1], List.getElem_mem hl, ?_⟩
  have e : ixN (l.map f).length (-1) = some (l.length - 1) := by
    rw [List.length_map]
    unfold ixN
    rw [if_neg (by decide), if_pos (by omega)]
    congr 1
    omega
  unfold atI
  rw [e]
  show (l.map f)[l.length - 1]? = _
  rw [List.getElem?_map, List.getElem?_eq_getElem hl]; rfl
def revF (L : List D) : D → D
  | .int i => L.getD (L.length - 1 - i.toNat) .non
  | _ => .non
theorem rev_range (L : List D) : (rangeD 0 L.length).map (revF L) = L.reverse := by
  unfold rangeD
  rw [List.map_map]
  refine List.ext_getElem (by simp) fun i h1 h2 => ?_
  have hi : i < L.length := by simpa using h2
  rw [List.getElem_map, List.getElem_range, List.getElem_reverse]
  show L.getD (L.length - 1 - ((0 : Int) + (i : Nat)).toNat) .non = _
  have e : ((0 : Int) + (i : Nat)).toNat = i := by omega
  rw [e, List.getD_eq_getElem?_getD, List.getElem?_eq_getElem (by omega)]; rfl
end Toy
namespace L3
open PySem L2
theorem we_neg {c : Ctx} {ρ : List SD} {n : Nat} {ta : TE} {Φ : Nat → D → Prop} (h : WE c ta ρ n fun n1 d => ∃ i, d = .int i ∧ Φ n1 (.int (-i))) : WE c (tUn (rU fun i => .int (-i)) ta) ρ n Φ := we_un (h.mono fun n1 d ⟨i, e, k⟩ O H x Q r no q => by
  subst e
  cases r
  exact ⟨i, rfl, q _ _ H (Same.refl _) (.int _) k⟩)
end L3
namespace Toy
open PySem L2 L3
local macro_rules | `(tactic| walk_at "we1") => `(tactic| first
  | ((with_reducible refine' we_var ?hv ?_); (case hv => rfl))
  | (with_reducible refine we_int ?_)
  | (with_reducible refine we_str ?_)
  | (with_reducible refine we_bl ?_)
  | (with_reducible refine we_non ?_)
  | ((with_reducible refine' we_dix ?hv ?_); (case hv => rfl))
  | (with_reducible refine we_op ?_)
  | ((with_reducible refine' we_dget ?hv ?_); (case hv => rfl))
  | (with_reducible refine we_count ?_)
  | (with_reducible refine we_cb ?_)
  | (with_reducible refine we_call0 ?_)
  | (with_reducible refine we_tup ?_)
  | (with_reducible refine we_lst ?_)
  | (with_reducible refine we_if ?_)
  | (with_reducible refine we_not ?_)
  | (with_reducible refine we_and ?_)
  | (with_reducible refine we_or ?_)
  | (with_reducible refine we_isN ?_)
  | (with_reducible refine we_notN ?_)
  | (with_reducible refine we_sl ?_)
  | (with_reducible refine wa_cons ?_)
  | (with_reducible refine wa_nil ?_)
  | (with_reducible refine wt_test ?_)
  | (with_reducible refine wt_B ?_)
  | (with_reducible refine wt_and ?_)
  | (with_reducible refine wt_or ?_)
  | (with_reducible refine wt_not ?_)
  | (with_reducible refine wt_yes ?_)
  | (with_reducible refine wo_none ?_)
  | (with_reducible refine wo_some ?_)
  | ((with_reducible refine' r2_ix ?hx ?_); (case hx => rfl))
  | (with_reducible refine r2_isN ?_)
  | (with_reducible refine r2_notN ?_)
  | (with_reducible refine r2_lt ?_)
  | (with_reducible refine r2_le ?_)
  | (with_reducible refine r2_gt ?_)
  | (with_reducible refine r2_ge ?_)
  | (with_reducible refine r2_sub ?_)
  | (with_reducible refine r2_addI ?_)
  | (with_reducible refine r2_eqI ?_)
  | (with_reducible refine r2_neI ?_)
  | (with_reducible refine rc_int ?_)
  | (with_reducible refine rc_abs ?_)
  | ((with_reducible refine' rc_len ?hl ?_); (case hl => rfl))
  | (with_reducible refine wi_seq ?_)
  | (with_reducible refine wi_rng1 ?_)
  | (with_reducible refine wi_rng2 ?_)
  | (with_reducible refine wi_enum ?_)
  | (refine ⟨_, rfl, ?_⟩))
local macro_rules | `(tactic| walk_at "ws1") => `(tactic| first
  | (with_reducible refine ws_seq ?_)
  | (with_reducible refine ws_set ?_)
  | (with_reducible refine ws_ret ?_)
  | (with_reducible refine ws_if ?_)
  | (with_reducible refine ws_next ?_)
  | (with_reducible refine ws_asg ?_))
local macro_rules | `(tactic| walk_at "wg1") => `(tactic| first
  | (with_reducible refine wg_name (rw_name (by decide)) ?_)
  | (with_reducible refine wg_name (fun _ _ => trivial) ?_)
  | ((with_reducible refine' wg_tup ?hl ?_); (case hl => rfl))
  | (with_reducible refine wgs_cons rw_trans ?_)
  | (with_reducible refine wgs_nil rw_refl ?_)
  | (with_reducible refine wgs_cons (fun _ _ _ _ _ => trivial) ?_)
  | (with_reducible refine wgs_nil (fun _ => trivial) ?_))
local macro_rules | `(tactic| walk_at "go") => `(tactic| repeat' (first | walk_at "we1" | walk_at "wg1"))
section
variable {P : Program} {w : World} {K : PySem.W.Frag} {mg : Str → Option Value} {base : Heap}
abbrev kD (l : List Int) : D := .tup (l.map .int)
theorem fit_keys (ks : List (List Int)) : fit (.lst (ks.map kD)) = true := (fit_list fun d hd => by
  obtain ⟨l, _, rfl⟩ := List.mem_map.mp hd
  refine ⟨fit_ints l, ?_⟩
  show PyData.depthAll (dpyAll (l.map D.int)) + 1 ≤ 60
  rw [dep_ints]; decide).1
theorem fit_keyO (k : Option (List Int)) : fit (keyO k) = true := by
  cases k with
  | none => rfl
  | some l => exact fit_ints l
def spLaw (K : PySem.W.Frag) : Sp := fun vs H Q _ => ∃ (a : Addr) (ns : List Int), vs = [.ref a] ∧ SqL K H a (ns.map V.int) ∧ ns.length ≤ 63 ∧ ∀ H', Q (.bl true) H'
abbrev rL (b : Addr) (wd : Nat) (nm : Str) (tw : Bool) (x5 : SD) (cs : List (List Ent)) (x7 x8 x9 x10 x11 x12 x13 x14 x15 x16 x17 x18 : SD) : List SD := [.un, .val (.adr b), .val (.int (wd : Nat)), .val (.str nm), .val (.bl tw), x5, .val (.lst (cs.map copyD)), x7, x8, x9, x10, x11, x12, x13, x14, x15, x16, x17, x18]
theorem gN_go {i : Nat} {v : V} {σ : L2.St} {H : Hp} {Q : L2.St → Hp → Prop} (h : Q (σ.set i (some v)) H) : gName i v σ H Q := h
abbrev s_law : Stmt := top 12
abbrev N_law : List Str := ["script", "bag", "wide", "name", "twice", "place", "copies", "keys", "copy", "entry", "key", "handed", "told", "entries", "number", "turned", "could", "due", "everything"]
theorem sc_law : FnScope N_law ["script"] (defScope s_law) := ⟨rfl, rfl, rfl, by decide +kernel, rfl, by decide +kernel, by decide +kernel⟩

theorem ok_law {f : Addr} {fd : FuncData} {dw : List Value} (F : Fun K "law" "law" s_law f fd) (T : Txt mg) (D_law_bag : Dr P w K mg base "_law_bag" 1 ["script"] (spBag K)) (D_law_draw : Dn P w K mg base "_law_draw" 1 ["bag", "limit"] [] [] spDraw)
    (D_law_marked_copy : Dn P w K mg base "_law_marked_copy" 2 ["bag", "name", "wide", "twice"] [] [] spMarked) (D_told_counts : Dn P w K mg base "told_counts" 1 ["copies", "name", "key"] [.non] dw spTold)
    (kb_told_counts : KBinds K D_told_counts.fd ["copies", "name", "key"] ["key"] gK gKV) (D_law_told_of : Dn P w K mg base "_law_told_of" 1 ["copies", "name", "key"] [] [] spToldOf)
    (D_law_counted : Dn P w K mg base "_law_counted" 1 ["entries"] [] [] spCounted) (D_law_is_entry : Dn P w K mg base "_law_is_entry" 2 ["thing"] [] [] spEntry) (D_law_is_whole : Dn P w K mg base "_law_is_whole" 1 ["thing"] [] [] spWhole)
    (D_law_only_in_all_ways : Dn P w K mg base "_law_only_in_all_ways" 1 ["entries", "could"] [] [] spOnly) (D_sure_entry : Dn P w K mg base "sure_entry" 1 ["counts", "could"] [] [] spSure) : FnOk P w K mg base CX0 3 f fd ["script"] (spLaw K) := by
  refine F.ok sc_law (fun vs H Q E h => ?_) (fun cdv A outer s H vs Q E hr h => ?_)
  · obtain ⟨a, ns, rfl, _⟩ := h
    rfl
  · obtain ⟨a, ns, rfl, hS, hlen, k⟩ := h
    refine ⟨_, (pss_cons (ps_set (i := 1) sc_law.nd rfl (Or.inr rfl) (pe_call D_law_bag.G (hr.mono (by decide)) (by rfl) D_law_bag.m D_law_bag.k D_law_bag.b D_law_bag.v pass0 (pa_cons (pv 0) pa_nil)))
  (pss_cons (ps_set (i := 2) sc_law.nd rfl (Or.inr rfl) (pe_call D_law_draw.G (hr.mono (by decide)) (by rfl) D_law_draw.m D_law_draw.k D_law_draw.b D_law_draw.v pass0 (pa_cons (pv 1) (pa_cons pe_int pa_nil))))
  (pss_cons (ps_set (i := 3) sc_law.nd rfl (Or.inr rfl) (pe_ix (x_ix K) (pe_lst (pa_cons pe_str (pa_cons pe_str (pa_cons pe_str pa_nil)))) (pe_call D_law_draw.G (hr.mono (by decide)) (by rfl) D_law_draw.m D_law_draw.k D_law_draw.b D_law_draw.v pass0 (pa_cons (pv 1) (pa_cons pe_int pa_nil))) (fun _ _ => rfl)))
  (pss_cons (ps_set (i := 4) sc_law.nd rfl (Or.inr rfl) (pe_and (pe_cmpR op_gt (pv 2) pe_int (nomark _)) (pe_one (pe_cmpR (x_eq K (by exact hr.units)) (pe_call D_law_draw.G (hr.mono (by decide)) (by rfl) D_law_draw.m D_law_draw.k D_law_draw.b D_law_draw.v pass0 (pa_cons (pv 1) (pa_cons pe_int pa_nil))) pe_int (nomark _)))))
  (pss_cons (ps_set (i := 6) sc_law.nd rfl (Or.inr rfl) (pe_lc (own := [("place", 5)]) (g := gName 5) (tt := tYes) rfl sc_law.nd (pi_range1 (by rfl) T.b_range (pa_cons (pe_call D_law_draw.G (hr.mono (by decide)) (by rfl) D_law_draw.m D_law_draw.k D_law_draw.b D_law_draw.v pass0 (pa_cons (pv 1) (pa_cons pe_int pa_nil))) pa_nil)) (blkOk_by (own := [("place", 5)]) (N := N_law) (sc := defScope s_law) (by decide +kernel)) (fun _ _ _ _ _ => (pg_name (i := 5) sc_law.nd rfl (Or.inl rfl))) (fun _ _ _ _ _ => pts_nil) (fun _ _ _ _ _ => (pe_call D_law_marked_copy.G (hr.mono (by decide)) (by rfl) D_law_marked_copy.m D_law_marked_copy.k D_law_marked_copy.b D_law_marked_copy.v pass0 (pa_cons (pv 1) (pa_cons (pv 3) (pa_cons (pv 2) (pa_cons (pv 4) pa_nil))))))))
  (pss_cons (ps_if (PW.pt (pw_and (pt_cmpR (x_eq K (by exact hr.units)) (pe_call D_law_draw.G (hr.mono (by decide)) (by rfl) D_law_draw.m D_law_draw.k D_law_draw.b D_law_draw.v pass0 (pa_cons (pv 1) (pa_cons pe_int pa_nil))) pe_int (nomark _)) (pw_and1 (pt_cmpR op_gt (pe_callB (x_len K) (by rfl) T.b_len (by decide +kernel) (pa_cons (pv 6) pa_nil)) pe_int (nomark _))))) (pss_one (ps_set (i := 6) sc_law.nd rfl (Or.inr rfl) (pe_op (x_add K) (pe_slice (x_sl K) (pv 6) po_none (po_some pe_int)) (pe_lc (own := [("place", 5)]) (g := gName 5) (tt := tYes) rfl sc_law.nd (pi_range1 (by rfl) T.b_range (pa_cons pe_int pa_nil)) (blkOk_by (own := [("place", 5)]) (N := N_law) (sc := defScope s_law) (by decide +kernel)) (fun _ _ _ _ _ => (pg_name (i := 5) sc_law.nd rfl (Or.inl rfl))) (fun _ _ _ _ _ => pts_nil) (fun _ _ _ _ _ => (pe_ix (x_ix K) (pv 6) (pe_un un_neg pe_int) (fun _ _ => rfl))))))) pss_nil)
  (pss_cons (ps_set (i := 7) sc_law.nd rfl (Or.inl rfl) (pe_lst (pa_cons pe_non pa_nil)))
  (pss_cons (ps_if (pt_val (pv 4)) (pss_cons (ps_set (i := 7) sc_law.nd rfl (Or.inl rfl) (pe_lst pa_nil))
  (pss_cons (ps_for PassesOwn.never rfl (x_seq K (pv 6)) (pg_name (i := 8) sc_law.nd rfl (Or.inl rfl)) (pss_one (ps_for PassesOwn.never rfl (x_seq K (pv 8)) (pg_name (i := 9) sc_law.nd rfl (Or.inl rfl)) (pss_one (ps_if (PW.pt (pw_and (pt_cmpR (x_eq K (by exact hr.units)) (pe_ix (x_ix K) (pv 9) pe_int (fun _ _ => rfl)) (pv 3) (nomark _)) (pw_and1 (pt_cmpR (x_notIn K (by exact hu65 hr)) (pe_ix (x_ix K) (pv 9) pe_int (fun _ _ => rfl)) (pv 7) (by with_unfolding_all rfl))))) (pss_one (ps_expr (pe_bm PySem.F.plainAttrs_list PySem.F.slot_list_append PySem.F.type_list_append mt_append (pv 7) (pa_cons (pe_ix (x_ix K) (pv 9) pe_int (fun _ _ => rfl)) pa_nil)))) pss_nil)))))
  (pss_one (ps_expr (pe_bm PySem.F.plainAttrs_list PySem.F.slot_list_append PySem.F.type_list_append mt_append (pv 7) (pa_cons (pe_callTy (x_tup K) (by rfl) T.b_tuple (by decide +kernel) (pa_cons (pe_lc (own := [("place", 5)]) (g := gName 5) (tt := tYes) rfl sc_law.nd (pi_range1 (by rfl) T.b_range (pa_cons (pv 2) pa_nil)) (blkOk_by (own := [("place", 5)]) (N := N_law) (sc := defScope s_law) (by decide +kernel)) (fun _ _ _ _ _ => (pg_name (i := 5) sc_law.nd rfl (Or.inl rfl))) (fun _ _ _ _ _ => pts_nil) (fun _ _ _ _ _ => pe_int)) pa_nil)) pa_nil)))))) pss_nil)
  (pss_cons (ps_for PassesOwn.never rfl (x_seq K (pv 7)) (pg_name (i := 10) sc_law.nd rfl (Or.inl rfl)) (pss_cons (ps_set (i := 11) sc_law.nd rfl (Or.inl rfl) (pe_callTy (x_list K) (by rfl) T.b_list (by decide +kernel) (pa_cons (pv 6) pa_nil)))
  (pss_cons (ps_set (i := 12) sc_law.nd rfl (Or.inr rfl) (pe_ifExp (pt_cmpR op_isN1 (pv 10) pe_non (nomark _)) (pe_call D_told_counts.G (hr.mono (by decide)) (by rfl) D_told_counts.m D_told_counts.k D_told_counts.b D_told_counts.v pass0 (pa_cons (pv 11) (pa_cons (pv 3) pa_nil))) (pe_callK D_told_counts.G (hr.mono (by decide)) (by rfl) D_told_counts.m D_told_counts.k kb_told_counts pass0 (pa_cons (pv 11) (pa_cons (pv 3) pa_nil)) (pk_cons (pv 10) pk_nil))))
  (pss_cons (ps_set (i := 13) sc_law.nd rfl (Or.inl rfl) (pe_call D_law_told_of.G (hr.mono (by decide)) (by rfl) D_law_told_of.m D_law_told_of.k D_law_told_of.b D_law_told_of.v pass0 (pa_cons (pv 6) (pa_cons (pv 3) (pa_cons (pv 10) pa_nil)))))
  (pss_cons (ps_if (PW.pt (pw_or (pt_cmpR (x_ne K (by exact hr.units)) (pv 12) (pe_callTy (x_tup K) (by rfl) T.b_tuple (by decide +kernel) (pa_cons (pe_call D_law_counted.G (hr.mono (by decide)) (by rfl) D_law_counted.m D_law_counted.k D_law_counted.b D_law_counted.v pass0 (pa_cons (pv 13) pa_nil)) pa_nil)) (nomark _)) (pw_or1 (pt_cmpR (x_ne K (by exact hr.units)) (pv 11) (pv 6) (nomark _))))) (pss_one (ps_ret pe_bl)) pss_nil)
  (pss_cons (ps_for PassesOwn.never rfl (x_seq K (pv 12)) (x_tgt K (pg_tup (by rfl) (pgs_cons (pg_name (i := 9) sc_law.nd rfl (Or.inl rfl)) (pgs_cons (pg_name (i := 14) sc_law.nd rfl (Or.inl rfl)) pgs_nil)))) (pss_one (ps_if (PW.pt (pw_or (pt_not (pt_val (pe_call D_law_is_entry.G (hr.mono (by decide)) (by rfl) D_law_is_entry.m D_law_is_entry.k D_law_is_entry.b D_law_is_entry.v pass0 (pa_cons (pv 9) pa_nil)))) (pw_or1 (pt_not (pt_val (pe_call D_law_is_whole.G (hr.mono (by decide)) (by rfl) D_law_is_whole.m D_law_is_whole.k D_law_is_whole.b D_law_is_whole.v pass0 (pa_cons (pv 14) pa_nil))))))) (pss_one (ps_ret pe_bl)) pss_nil)))
  (pss_cons (ps_setLc (i := 15) (own := [("place", 5)]) (g := gName 5) (tt := tYes) rfl sc_law.nd rfl rfl (sw_true rfl rfl rfl (by decide +kernel)) (pi_range1 (by rfl) T.b_range (pa_cons (pe_callB (x_len K) (by rfl) T.b_len (by decide +kernel) (pa_cons (pv 12) pa_nil)) pa_nil)) (blkOk_by (own := [("place", 5)]) (N := N_law) (sc := defScope s_law) (by decide +kernel)) (fun _ _ _ _ _ => (pg_name (i := 5) sc_law.nd rfl (Or.inl rfl))) (fun _ _ _ _ _ => pts_nil) (fun _ _ _ _ _ => (pe_ix (x_ix K) (pv 12) (pe_op op_sub (pe_op op_sub (pe_callB (x_len K) (by rfl) T.b_len (by decide +kernel) (pa_cons (pv 12) pa_nil)) pe_int) (pv 5)) (fun _ _ => rfl))))
  (pss_one (ps_for PassesOwn.never rfl (pi_range1 (by rfl) T.b_range (pa_cons pe_int pa_nil)) (pg_name (i := 16) sc_law.nd rfl (Or.inl rfl)) (pss_cons (ps_set (i := 17) sc_law.nd rfl (Or.inl rfl) (pe_call D_law_only_in_all_ways.G (hr.mono (by decide)) (by rfl) D_law_only_in_all_ways.m D_law_only_in_all_ways.k D_law_only_in_all_ways.b D_law_only_in_all_ways.v pass0 (pa_cons (pv 13) (pa_cons (pv 16) pa_nil))))
  (pss_one (ps_if (PW.pt (pw_or (pt_cmpR (x_ne K (by exact hr.units)) (pe_call D_sure_entry.G (hr.mono (by decide)) (by rfl) D_sure_entry.m D_sure_entry.k D_sure_entry.b D_sure_entry.v pass0 (pa_cons (pv 12) (pa_cons (pv 16) pa_nil))) (pv 17) (nomark _)) (pw_or1 (pt_cmpR (x_ne K (by exact hr.units)) (pe_call D_sure_entry.G (hr.mono (by decide)) (by rfl) D_sure_entry.m D_sure_entry.k D_sure_entry.b D_sure_entry.v pass0 (pa_cons (pv 15) (pa_cons (pv 16) pa_nil))) (pv 17) (nomark _))))) (pss_one (ps_ret pe_bl)) pss_nil))))))))))))
  (pss_cons (ps_set (i := 18) sc_law.nd rfl (Or.inl rfl) (pe_call D_law_counted.G (hr.mono (by decide)) (by rfl) D_law_counted.m D_law_counted.k D_law_counted.b D_law_counted.v pass0 (pa_cons (pe_call D_law_told_of.G (hr.mono (by decide)) (by rfl) D_law_told_of.m D_law_told_of.k D_law_told_of.b D_law_told_of.v pass0 (pa_cons (pv 6) (pa_cons (pv 3) (pa_cons pe_non pa_nil)))) pa_nil)))
  (pss_one (ps_ret (pe_and (pe_cmpR (x_eq K (by exact hr.units)) (pe_call D_told_counts.G (hr.mono (by decide)) (by rfl) D_told_counts.m D_told_counts.k D_told_counts.b D_told_counts.v pass0 (pa_cons (pv 6) (pa_cons (pv 3) pa_nil))) (pe_callTy (x_tup K) (by rfl) T.b_tuple (by decide +kernel) (pa_cons (pv 18) pa_nil)) (nomark _)) (pe_and (pe_cmpR (x_eq K (by exact hr.units)) (pe_call D_told_counts.G (hr.mono (by decide)) (by rfl) D_told_counts.m D_told_counts.k D_told_counts.b D_told_counts.v pass0 (pa_cons (pe_lst pa_nil) (pa_cons (pv 3) pa_nil))) (pe_tup pa_nil) (nomark _)) (pe_one (pe_cmpR op_isN1 (pe_call D_sure_entry.G (hr.mono (by decide)) (by rfl) D_sure_entry.m D_sure_entry.k D_sure_entry.b D_sure_entry.v pass0 (pa_cons (pe_tup pa_nil) (pa_cons pe_int pa_nil))) pe_non (nomark _))))))))))))))))), ?_⟩
    refine st_seq ?_
    refine ⟨_, rfl, a, ns, rfl, hS, hlen, fun b q bs H1 nqb g1 g2 g3 g4 g5 => ?_⟩
    refine gN_go ?_
    dsimp only
    refine' (?W : WS ⟨P, w, K, [q, b], some (b, q), H1⟩ _ [.un, .val (.adr b), .un, .un, .un, .un, .un, .un, .un, .un, .un, .un, .un, .un, .un, .un, .un, .un, .un] 0 { nx := fun _ _ => False, rt := fun _ d => d = .bl true }) (fun _ => none) [] _ H1 _ ?E1 ?A1
    case E1 =>
      exact { nd := List.nodup_nil, fresh := (fun l hl => nomatch hl), slots := ⟨[], .un (.val (.adr b) (slots_un 17)), List.Sublist.refl _⟩, lst := (fun l hl => nomatch hl), bag := (fun b' q' e => by cases e; exact ⟨0, 0, bs, g1, g2, g3, g4, g5, Int.le_refl _, Int.le_refl _, Int.le_refl _⟩), base := Same.refl _,
              pers := (fun _ _ e => nomatch e), bO := (fun b' q' e => by cases e; exact ⟨List.mem_cons_of_mem _ List.mem_cons_self, List.mem_cons_self, nqb⟩),
              al := fun o ho => by
                rcases List.mem_cons.mp ho with e | e
                · rw [e, g2]; exact fun z => nomatch z
                · rw [List.mem_singleton.mp e, g1]; exact fun z => nomatch z }
    case A1 =>
      exact { nx := fun _ _ _ _ _ _ h => h.elim, rt := fun v d n H' _ _ r e => by subst e; cases r; exact k H', bk := fun _ _ _ _ _ _ h => h.elim, ct := fun _ _ _ _ _ _ h => h.elim }
    case W =>
      clear g1 g2 g3 g4 g5 hS hlen k
      -- wide
      walk_at "ws1"
      walk_at "ws1"
      walk_at "go"
      refine do_draw (by decide) (by decide) (by decide) fun r r0 r3 => ?_
      obtain ⟨wd, rfl⟩ : ∃ wd : Nat, r = (wd : Int) := ⟨r.toNat, by omega⟩
      have hw : wd ≤ 2 := by omega
      -- name
      walk_at "ws1"
      refine ws_set (WE.mono (Φ := fun m d => m = 2 ∧ ∃ nm, d = .str nm ∧ fit (.str nm) = true) ?_ ?_)
      · walk_at "go"
        refine ⟨Nat.le_of_ble_eq_true rfl, ?_⟩
        walk_at "go"
        refine do_draw (by decide) (by decide) (by decide) fun r _ _ => ?_
        have hr : r = 0 ∨ r = 1 ∨ r = 2 := by omega
        rcases hr with rfl | rfl | rfl
        · exact r2_ix rfl ⟨rfl, _, rfl, by decide +kernel⟩
        · exact r2_ix rfl ⟨rfl, _, rfl, by decide +kernel⟩
        · exact r2_ix rfl ⟨rfl, _, rfl, by decide +kernel⟩
      rintro n1 d ⟨rfl, nm, rfl, fn⟩
      -- twice
      walk_at "ws1"
      refine ws_set (WE.mono (Φ := fun m d => m ≤ 3 ∧ ∃ tw, d = .bl tw ∧ (tw = true → 0 < wd)) ?_ ?_)
      · walk_at "go"
        refine dec2 (fun h0 => ?_) (fun h0 => ?_)
        · walk_at "go"
          refine do_draw (by decide) (by decide) (by decide) fun r _ _ => ?_
          walk_at "go"
          exact ⟨by decide, _, rfl, fun _ => by omega⟩
        · exact ⟨by decide, _, rfl, fun h => nomatch h⟩
      rintro n1 d ⟨hn1, tw, rfl, htw⟩
      -- copies
      walk_at "ws1"
      walk_at "ws1"
      refine wf_we (wf_lc ?_)
      walk_at "go"
      refine do_draw (by decide) (by decide) (by omega) fun r r0 r7 => ?_
      walk_at "go"
      refine ⟨by omega, by omega, ?_⟩
      refine ⟨fun k m acc => m ≤ 5 + 20 * k ∧ ∃ cs : List (List Ent), acc = cs.map copyD ∧ cs.length = k ∧ ∀ es ∈ cs, es.length ≤ 3 ∧ ∀ e ∈ es, okE e ∧ e.ks.length ≤ 2, ⟨by omega, [], rfl, rfl, fun es h => nomatch h⟩, ?_, ?_⟩
      · rintro k m acc d hd ⟨hm, cs, rfl, hk, hcs⟩
        obtain ⟨hkr, rfl⟩ := rangeD_get hd
        walk_at "go"
        refine itT rfl ?_
        walk_at "go"
        refine ⟨b, q, nm, wd, tw, rfl, rfl, fn, hw, htw, by omega, fun es n' h1 h2 h3 => ?_⟩
        refine ⟨by rw [List.length_map, sizeLine_eq]; omega, by omega, cs ++ [es], by rw [List.map_append]; rfl, by rw [List.length_append, hk]; rfl, fun x hx => ?_⟩
        rcases List.mem_append.mp hx with z | z
        · exact hcs x z
        · rw [List.mem_singleton.mp z]; exact ⟨h1, h2⟩
      rintro m acc ⟨hm, cs, rfl, hk, hcs⟩
      rw [rangeD_len] at hk hm
      have gC : GC cs := ⟨by omega, hcs⟩
      have hm2 : m ≤ 125 := by omega
      clear hk hcs
      -- copies, the last once more
      walk_at "ws1"
      refine WS.mono (Ψ := { nx := fun n2 ρ2 => n2 ≤ 130 ∧ ∃ cs x5, ρ2 = rL b wd nm tw x5 cs .un .un .un .un .un .un .un .un .un .un .un .un ∧ GC cs, rt := fun _ _ => False }) ?_ ?_ (fun _ _ h => h.elim) (fun _ _ h => h.elim) (fun _ _ h => h.elim)
      · refine ws_if ?_
        walk_at "go"
        refine do_draw (by decide) (by decide) (by omega) fun r _ _ => ?_
        walk_at "go"
        refine dec2 (fun _ => ?_) (fun _ => ?_)
        · walk_at "go"
          refine dec2 (fun hl => ?_) (fun hl => ?_)
          · have hl' : 0 < cs.length := by
              have : (0 : Int) < ((cs.map copyD).length : Nat) := hl
              rw [List.length_map] at this; omega
            obtain ⟨c1, hc1, hat⟩ := last_at copyD cs hl'
            obtain ⟨ys, e1, e2⟩ := cut_map copyD cs none (some 3)
            have hy3 : ys.length ≤ 3 := by
              have e3 := congrArg List.length e1
              rw [List.length_map] at e3
              rw [← e3]
              unfold cutD
              rw [List.length_take]
              have s1 : HT.sIx (cs.map copyD).length (cs.map copyD).length (some ((3 : Nat) : Int)) ≤ 3 := by rw [HT.sIx_nat]; omega
              have s1' : HT.sIx (cs.map copyD).length (cs.map copyD).length (some 3) ≤ 3 := s1
              omega
            walk_at "ws1"
            walk_at "go"
            rw [e1]
            refine wf_we (wf_map (fun _ => copyD c1) (fun _ => true) ?_)
            walk_at "go"
            refine ⟨by decide, by decide, ?_⟩
            refine ⟨by decide, fun d hd m => ?_, ?_⟩
            · walk_at "go"
              refine ⟨rfl, rfl, fun _ => ?_⟩
              walk_at "go"
              refine we_neg ?_
              walk_at "go"
              exact r2_ix hat ⟨rfl, rfl⟩
            rw [filt_all]
            have e3 : ys.map copyD ++ (rangeD 0 (3 : Int).toNat).map (fun _ => copyD c1) = (ys ++ [c1, c1, c1]).map copyD := by rw [List.map_append]; rfl
            refine r2_cat ?_ ?_
            · rw [← List.length_append, e3, List.length_map, List.length_append]
              show ys.length + 3 ≤ _; omega
            rw [e3]
            refine ⟨by omega, ys ++ [c1, c1, c1], _, rfl, ?_, fun es he => ?_⟩
            · rw [List.length_append]; show ys.length + 3 ≤ 6; omega
            · rcases List.mem_append.mp he with z | z
              · exact gC.2 es (e2.subset z)
              · have : es = c1 := by simpa using z
                rw [this]; exact gC.2 c1 hc1
          · walk_at "ws1"
            exact ⟨by omega, cs, _, rfl, gC⟩
        · refine itF rfl ?_
          walk_at "ws1"
          exact ⟨by omega, cs, _, rfl, gC⟩
      clear gC hm2 hm hn1 n1 m cs
      rintro n2 ρ2 ⟨hn2, cs, x5, rfl, gC⟩
      -- keys
      walk_at "ws1"
      walk_at "ws1"
      walk_at "go"
      refine ⟨Nat.le_of_ble_eq_true rfl, ?_⟩
      walk_at "ws1"
      refine WS.mono (Ψ := { nx := fun n3 ρ3 => n3 = n2 ∧ ∃ (ks : List (Option (List Int))) (x5 x7 x8 x9 : SD), (x7 = .val (.lst (ks.map keyO)) ∨ x7 = .own (ks.map keyO)) ∧ ρ3 = rL b wd nm tw x5 cs x7 x8 x9 .un .un .un .un .un .un .un .un .un, rt := fun _ _ => False }) ?_ ?_ (fun _ _ h => h.elim) (fun _ _ h => h.elim) (fun _ _ h => h.elim)
      · refine ws_if ?_
        walk_at "go"
        refine boo2 (fun ht => ?_) (fun ht => ?_)
        · walk_at "ws1"
          refine ws_own (i := 7) (Nat.le_of_ble_eq_true rfl) (wf_lst (wa_nil ⟨Nat.zero_le _, ?_⟩))
          walk_at "ws1"
          refine ws_for ?_
          walk_at "we1"
          walk_at "we1"
          refine ⟨_, rfl, fun i m ρ => m = n2 ∧ ∃ (ks : List (List Int)) (x8 x9 : SD), ρ = rL b wd nm tw x5 cs (.own (ks.map kD)) x8 x9 .un .un .un .un .un .un .un .un .un ∧ ks.length ≤ 3 * i, ⟨rfl, [], _, _, rfl, Nat.le_refl _⟩, ?_, ?_⟩
          · rintro i m ρ1 d hd ⟨rfl, ks, x8, x9, rfl, hks⟩
            obtain ⟨es, he, rfl, hm, tk⟩ := map_at hd
            have hi : i < cs.length := (List.getElem?_eq_some_iff.mp he).1
            have hes := (gC.2 es hm).1
            have hc6 := gC.1
            walk_at "wg1"
            refine ws_for ?_
            walk_at "we1"
            walk_at "we1"
            refine ⟨_, rfl, fun j m2 ρ => m2 = m ∧ ∃ (ks : List (List Int)) (x9 : SD), ρ = rL b wd nm tw x5 cs (.own (ks.map kD)) (.val (copyD es)) x9 .un .un .un .un .un .un .un .un .un ∧ ks.length ≤ 3 * i + j, ⟨rfl, ks, x9, rfl, hks⟩, ?_, ?_⟩
            · rintro j m2 ρ2 d2 hd2 ⟨rfl, ks2, x9', rfl, hk2⟩
              obtain ⟨e, hee, rfl, hme, _⟩ := map_at hd2
              have hj : j < es.length := (List.getElem?_eq_some_iff.mp hee).1
              have oke := ((gC.2 es hm).2 e hme).1
              walk_at "go"
              refine ws_if (wt_look 7 rfl ?_)
              walk_at "go"
              refine r2_eqD (ok_nm oke) fn ?_
              refine ⟨_, rfl, ?_⟩
              refine boo2 (fun h1 => ?_) (fun h1 => ?_)
              · walk_at "go"
                refine r2_notIn rfl (ok_ks oke) (fit_keys ks2) ?_
                refine ⟨_, rfl, ?_⟩
                refine booN (fun h2 => ?_) (fun h2 => ?_)
                · refine ws_append (i := 7) (ds := ks2.map kD) rfl ?_
                  walk_at "go"
                  refine ⟨by rw [List.length_map, sizeLine_eq]; omega, rfl, ks2 ++ [e.ks], .val (entD e), ?_, by rw [List.length_append]; show ks2.length + 1 ≤ _; omega⟩
                  rw [List.map_append]; rfl
                · walk_at "ws1"
                  exact ⟨rfl, ks2, .val (entD e), rfl, by omega⟩
              · refine itF rfl ?_
                walk_at "ws1"
                exact ⟨rfl, ks2, .val (entD e), rfl, by omega⟩
            · rintro m2 ρ2 ⟨rfl, ks2, x9', rfl, hk2⟩
              rw [List.length_map] at hk2
              exact ⟨rfl, ks2, _, _, rfl, by omega⟩
          · rintro m ρ1 ⟨rfl, ks, x8, x9, rfl, hks⟩
            rw [List.length_map] at hks
            have hc6 := gC.1
            refine ws_append (i := 7) (ds := ks.map kD) rfl ?_
            refine we_cb (wa_cons (wf_we (wf_map (fun _ => .int 9) (fun _ => true) ?_)))
            walk_at "go"
            refine ⟨by omega, by omega, ?_⟩
            refine ⟨by rw [rangeD_len]; omega, fun d hd m => ?_, ?_⟩
            · walk_at "go"
              refine ⟨rfl, rfl, fun _ => ?_⟩
              walk_at "go"
              exact ⟨rfl, rfl⟩
            rw [filt_all]
            refine wa_nil (rc_tup rfl ?_)
            have e9 : (rangeD 0 ((wd : Nat) : Int).toNat).map (fun _ => D.int 9) = (List.replicate ((wd : Nat) : Int).toNat (9 : Int)).map D.int := by
              unfold rangeD
              rw [List.map_map, List.map_replicate]
              exact List.eq_replicate_iff.mpr ⟨by simp, fun x hx => by obtain ⟨y, _, rfl⟩ := List.mem_map.mp hx; rfl⟩
            rw [e9]
            refine ⟨by rw [List.length_map, sizeLine_eq]; omega, rfl, ks.map some ++ [some (List.replicate ((wd : Nat) : Int).toNat 9)], x5, _, x8, x9, .inr rfl, ?_⟩
            rw [List.map_append, List.map_map]; rfl
        · walk_at "ws1"
          exact ⟨rfl, [none], x5, _, _, _, .inl rfl, rfl⟩
      rintro n3 ρ3 ⟨rfl, ks, x5', x7, x8, x9, hor, rfl⟩
      have fz : ∀ {ts : TS} {Ψ : Out}, WS ⟨P, w, K, [q, b], some (b, q), H1⟩ ts (rL b wd nm tw x5' cs (.val (.lst (ks.map keyO))) x8 x9 .un .un .un .un .un .un .un .un .un) n3 Ψ → WS ⟨P, w, K, [q, b], some (b, q), H1⟩ ts (rL b wd nm tw x5' cs x7 x8 x9 .un .un .un .un .un .un .un .un .un) n3 Ψ := fun h => by
        rcases hor with rfl | rfl
        · exact h
        · exact ws_freeze 7 rfl h
      refine fz ?_
      clear fz hor
      walk_at "ws1"
      refine ws_for ?_
      walk_at "we1"
      walk_at "we1"
      refine ⟨_, rfl, fun i m ρ => m = n3 ∧ ∃ x5 x8 x9 x10 x11 x12 x13 x14 x15 x16 x17, ρ = rL b wd nm tw x5 cs (.val (.lst (ks.map keyO))) x8 x9 x10 x11 x12 x13 x14 x15 x16 x17 .un, ⟨rfl, _, _, _, _, _, _, _, _, _, _, _, rfl⟩, ?_, ?_⟩
      · rintro i m ρ1 d hd ⟨rfl, x5, x8, x9, x10, x11, x12, x13, x14, x15, x16, x17, rfl⟩
        obtain ⟨k, hk, rfl, _, _⟩ := map_at hd
        have fk := fit_keyO k
        obtain ⟨tl, tok⟩ := gC.told nm k
        have tok' : ∀ e ∈ toldOf cs nm k, okE e := fun e he => (tok e he).1
        have fC := fit_counted tok'
        have fcs := fit_copies gC
        walk_at "wg1"
        -- handed
        walk_at "ws1"
        walk_at "ws1"
        walk_at "go"
        refine rc_list rfl ?_
        -- told
        walk_at "ws1"
        refine ws_set (WE.mono (Φ := fun m' d => m' = m ∧ d = .tup (countedD (toldOf cs nm k))) ?_ ?_)
        · walk_at "go"
          cases k with
          | none =>
            refine itT rfl ?_
            refine we_call (dds := [.non]) (fun _ => .cons .non .nil) ?_
            walk_at "go"
            exact ⟨cs, nm, none, rfl, gC.len, gC.all, fn, fk, rfl, rfl⟩
          | some l =>
            refine itF rfl ?_
            refine we_callK ?_
            walk_at "go"
            refine ⟨[.lst (cs.map copyD), .str nm, keyO (some l)], fun H vs zs r1 r2 => ?_, cs, nm, some l, rfl, gC.len, gC.all, fn, fk, rfl, rfl⟩
            cases r1 with
            | cons a1 r1 =>
              cases r1 with
              | cons a2 r1 =>
                cases r1
                cases r2 with
                | cons a3 r2 =>
                  cases r2
                  exact .cons a1 (.cons a2 (.cons a3 .nil))
        rintro m' d ⟨rfl, rfl⟩
        -- entries
        walk_at "ws1"
        walk_at "ws1"
        walk_at "go"
        refine ⟨cs, nm, k, rfl, gC.len, gC.all, fn, fk, ?_⟩
        generalize toldOf cs nm k = E at *
        have lC : (countedD E).length ≤ 18 := by
          unfold countedD
          rw [List.length_map, (sortE_perm _).length_eq]
          exact Nat.le_trans (firsts_le E) tl
        have hL : ∀ x, x ∈ sortE (firsts E) ↔ x ∈ E := fun x => by rw [(sortE_perm _).mem_iff, mem_firsts]
        have nL : (sortE (firsts E)).Nodup := (sortE_perm _).nodup_iff.mpr (nodup_firsts E)
        have hL2 : ∀ x, x ∈ (sortE (firsts E)).reverse ↔ x ∈ E := fun x => by rw [List.mem_reverse, hL]
        have nL2 : (sortE (firsts E)).reverse.Nodup := (List.reverse_perm _).nodup_iff.mpr nL
        walk_at "ws1"
        walk_at "ws1"
        walk_at "go"
        refine ⟨by omega, tok', ?_⟩
        walk_at "go"
        refine rc_tup rfl ?_
        refine r2_neD fC fC ?_
        rw [eq_self fC]
        refine ⟨_, rfl, itF rfl ?_⟩
        walk_at "go"
        refine r2_neD fcs fcs ?_
        rw [eq_self fcs]
        refine ⟨_, rfl, itF rfl ?_⟩
        walk_at "ws1"
        -- each entry, each number
        walk_at "ws1"
        refine ws_for ?_
        walk_at "we1"
        walk_at "we1"
        refine ⟨_, rfl, fun i m ρ => m = m' ∧ ∃ x9 x14, ρ = rL b wd nm tw x5 cs (.val (.lst (ks.map keyO))) x8 x9 (.val (keyO k)) (.val (.lst (cs.map copyD))) (.val (.tup (countedD E))) (.val (.lst (E.map entD))) x14 x15 x16 x17 .un, ⟨rfl, _, _, rfl⟩, ?_, ?_⟩
        · rintro i2 m2 ρ2 d2 hd2 ⟨rfl, x9', x14', rfl⟩
          obtain ⟨e, he, rfl, hem, _⟩ := map_at (l := sortE (firsts E)) (f := fun e => pairD (entD e, (E.count e : Nat))) hd2
          have hk2 := (tok e ((hL e).mp hem)).2
          walk_at "go"
          walk_at "ws1"
          walk_at "go"
          refine ⟨by omega, ?_⟩
          refine ⟨_, rfl, itF rfl ?_⟩
          walk_at "go"
          refine itF rfl ?_
          walk_at "ws1"
          exact ⟨rfl, _, _, rfl⟩
        rintro m2 ρ2 ⟨rfl, x9', x14', rfl⟩
        -- turned
        walk_at "ws1"
        walk_at "ws1"
        refine wf_we (wf_map (revF (countedD E)) (fun _ => true) ?_)
        walk_at "go"
        refine ⟨by omega, by omega, ?_⟩
        rw [Int.toNat_natCast]
        refine ⟨by rw [rangeD_len]; omega, fun d hd m => ?_, ?_⟩
        · obtain ⟨j, hj⟩ := List.getElem?_of_mem hd
          obtain ⟨hjl, rfl⟩ := rangeD_get hj
          walk_at "go"
          refine ⟨rfl, rfl, fun _ => ?_⟩
          walk_at "go"
          have ez : (((countedD E).length : Nat) : Int) - 1 - (0 + (j : Nat)) = (((countedD E).length - 1 - j : Nat) : Int) := by omega
          rw [ez]
          have hlt : (countedD E).length - 1 - j < (countedD E).length := by omega
          have hat : ixD (.tup (countedD E)) (((countedD E).length - 1 - j : Nat) : Int) = some (countedD E)[(countedD E).length - 1 - j] := (atI_nat (List.getElem?_eq_getElem hlt) : atI (countedD E) (((countedD E).length - 1 - j : Nat) : Int) = some _)
          refine r2_ix hat ⟨rfl, ?_⟩
          show _ = (countedD E).getD ((countedD E).length - 1 - ((0 : Int) + (j : Nat)).toNat) .non
          have e0 : ((0 : Int) + (j : Nat)).toNat = j := by omega
          rw [e0, List.getD_eq_getElem?_getD, List.getElem?_eq_getElem hlt]; rfl
        rw [filt_all, rev_range]
        -- each bound
        refine ws_for ?_
        walk_at "go"
        refine ⟨by decide, by decide, ?_⟩
        refine ⟨fun i m ρ => m = m2 ∧ ∃ x16 x17, ρ = rL b wd nm tw x5 cs (.val (.lst (ks.map keyO))) x8 x9' (.val (keyO k)) (.val (.lst (cs.map copyD))) (.val (.tup (countedD E))) (.val (.lst (E.map entD))) x14' (.val (.lst (countedD E).reverse)) x16 x17 .un, ⟨rfl, _, _, rfl⟩, ?_, ?_⟩
        · rintro i3 m3 ρ3 d3 hd3 ⟨rfl, x16', x17', rfl⟩
          obtain ⟨hi3, rfl⟩ := rangeD_get hd3
          walk_at "go"
          walk_at "ws1"
          walk_at "ws1"
          walk_at "go"
          refine ⟨E, _, rfl, tl, by omega, tok', fun due h1 h2 => ?_⟩
          have hd1 := due_is (could := 0 + ((i3 : Nat) : Int)) (by omega) nL hL h1 h2
          have hd2 := due_is (could := 0 + ((i3 : Nat) : Int)) (by omega) nL2 hL2 h1 h2
          have fd : fit due = true := by rw [← hd1]; exact due_fit (ok_firsts tok')
          have fp : ∀ L : List Ent, (∀ x ∈ L, x ∈ E) → ∀ p ∈ prs E L, fit p.1 = true := fun L h p hp => by
            obtain ⟨x, hx, rfl⟩ := List.mem_map.mp hp
            exact (tok' x (h x hx)).1
          have lp : (prs E (sortE (firsts E))).length ≤ 18 := by
            unfold prs
            rw [List.length_map, (sortE_perm _).length_eq]
            exact Nat.le_trans (firsts_le E) tl
          have lp2 : (prs E (sortE (firsts E)).reverse).length ≤ 18 := by
            unfold prs at lp ⊢
            rw [List.length_map] at lp
            rw [List.length_map, List.length_reverse]; exact lp
          walk_at "ws1"
          walk_at "go"
          refine ⟨_, prs E (sortE (firsts E)), _, rfl, by rw [prs_pair]; rfl, fp _ fun x hx => (hL x).mp hx, by omega, ?_⟩
          rw [hd1]
          walk_at "go"
          refine r2_neD fd fd ?_
          rw [eq_self fd]
          refine ⟨_, rfl, itF rfl ?_⟩
          walk_at "go"
          refine ⟨_, prs E (sortE (firsts E)).reverse, _, rfl, by rw [prs_pair, List.map_reverse]; rfl, fp _ fun x hx => (hL2 x).mp hx, by omega, ?_⟩
          rw [hd2]
          walk_at "go"
          refine r2_neD fd fd ?_
          rw [eq_self fd]
          refine ⟨_, rfl, itF rfl ?_⟩
          walk_at "ws1"
          exact ⟨rfl, _, _, rfl⟩
        rintro m3 ρ3 ⟨rfl, x16', x17', rfl⟩
        exact ⟨rfl, _, _, _, _, _, _, _, _, _, _, _, rfl⟩
      · rintro m ρ1 ⟨rfl, x5, x8, x9, x10, x11, x12, x13, x14, x15, x16, x17, rfl⟩
        obtain ⟨tl, tok⟩ := gC.told nm none
        have tok' : ∀ e ∈ toldOf cs nm none, okE e := fun e he => (tok e he).1
        have fC := fit_counted tok'
        have h0 : countedD (toldOf [] nm none) = [] := by simp [countedD, toldOf, firsts, sortE]
        walk_at "ws1"
        walk_at "ws1"
        walk_at "go"
        refine ⟨cs, nm, none, rfl, gC.len, gC.all, fn, rfl, ?_⟩
        walk_at "go"
        refine ⟨by omega, tok', ?_⟩
        walk_at "ws1"
        walk_at "go"
        refine we_call (dds := [.non]) (fun _ => .cons .non .nil) ?_
        walk_at "go"
        refine ⟨cs, nm, none, rfl, gC.len, gC.all, fn, rfl, ?_⟩
        walk_at "go"
        refine rc_tup rfl ?_
        refine r2_eqD fC fC ?_
        rw [eq_self fC]
        refine ⟨_, rfl, itT rfl ?_⟩
        walk_at "go"
        refine we_call (dds := [.non]) (fun _ => .cons .non .nil) ?_
        walk_at "go"
        refine ⟨Nat.zero_le _, ?_⟩
        walk_at "go"
        refine ⟨[], nm, none, rfl, by decide, fun es h => (nomatch h), fn, rfl, ?_⟩
        rw [h0]
        walk_at "go"
        refine ⟨Nat.zero_le _, ?_⟩
        refine r2_eqD rfl rfl ?_
        refine ⟨true, rfl, itT rfl ?_⟩
        walk_at "go"
        refine ⟨Nat.zero_le _, ?_⟩
        walk_at "go"
        refine ⟨.tup [], [], 0, rfl, rfl, fun p h => (nomatch h), by decide, ?_⟩
        walk_at "go"
        rfl
end
end Toy
namespace Toy
open PySem L2 L3
theorem all_mk {l : PySem.W.OpenLaw} {w : World} {K : PySem.W.Frag} {h : Heap} {mg : Str → Option Value} {fa : Addr} (X : K.In h) (G : h.Ns mainGlobals mg) (hfa : mg "law" = some (.ref fa))
    {f0 : Addr} {od0 an0 : Option Addr} {sl0 : Array (Option Value)} {oc0 kV0 dc0 pm0 cd0 ct0 : Value}
    {TT : Addr} {odT : Option Addr} {slT : Array (Option Value)} {ocT : Value} {nT : Nat}
    {f1 : Addr} {od1 an1 : Option Addr} {sl1 : Array (Option Value)} {oc1 kV1 dc1 pm1 cd1 ct1 : Value}
    {f2 : Addr} {od2 an2 : Option Addr} {sl2 : Array (Option Value)} {oc2 kV2 dc2 pm2 cd2 ct2 : Value}
    {f3 : Addr} {od3 an3 : Option Addr} {sl3 : Array (Option Value)} {oc3 kV3 dc3 pm3 cd3 ct3 : Value}
    {f4 : Addr} {od4 an4 : Option Addr} {sl4 : Array (Option Value)} {oc4 kV4 dc4 pm4 cd4 ct4 : Value}
    {f5 : Addr} {od5 an5 : Option Addr} {sl5 : Array (Option Value)} {oc5 kV5 dc5 pm5 cd5 ct5 : Value}
    {f6 : Addr} {od6 an6 : Option Addr} {sl6 : Array (Option Value)} {oc6 kV6 dc6 pm6 cd6 ct6 : Value}
    {f7 : Addr} {od7 an7 : Option Addr} {sl7 : Array (Option Value)} {oc7 kV7 dc7 pm7 cd7 ct7 : Value}
    {f8 : Addr} {od8 an8 : Option Addr} {sl8 : Array (Option Value)} {oc8 kV8 dc8 pm8 cd8 ct8 : Value}
    {f9 : Addr} {od9 an9 : Option Addr} {sl9 : Array (Option Value)} {oc9 kV9 dc9 pm9 cd9 ct9 : Value}
    {f10 : Addr} {od10 an10 : Option Addr} {sl10 : Array (Option Value)} {oc10 kV10 dc10 pm10 cd10 ct10 : Value}
    (a0 : PySem.W.nsIn K mainGlobals "told_counts" = some (some (.ref f0))) (l0 : K.lookup f0 = some ⟨oc0, od0, .func (PySem.W.fnOf "told_counts" "told_counts" (defArgs s_told_counts) (defBody s_told_counts) (defScope s_told_counts) (.ref TT) kV0 dc0 pm0 an0 cd0 ct0), sl0⟩) (c0 : PySem.W.codeIn K cd0 "told_counts" = true) (k0 : PySem.W.keepIn K (.ref f0) = true)
    (lT : K.lookup TT = some ⟨ocT, odT, .seq #[.none] nT, slT⟩)
    (a1 : PySem.W.nsIn K mainGlobals "sure_entry" = some (some (.ref f1))) (l1 : K.lookup f1 = some ⟨oc1, od1, .func (PySem.W.fnOf "sure_entry" "sure_entry" (defArgs s_sure_entry) (defBody s_sure_entry) (defScope s_sure_entry) .none kV1 dc1 pm1 an1 cd1 ct1), sl1⟩) (c1 : PySem.W.codeIn K cd1 "sure_entry" = true) (k1 : PySem.W.keepIn K (.ref f1) = true)
    (a2 : PySem.W.nsIn K mainGlobals "_law_bag" = some (some (.ref f2))) (l2 : K.lookup f2 = some ⟨oc2, od2, .func (PySem.W.fnOf "_law_bag" "_law_bag" (defArgs s_law_bag) (defBody s_law_bag) (defScope s_law_bag) .none kV2 dc2 pm2 an2 cd2 ct2), sl2⟩) (c2 : PySem.W.codeIn K cd2 "_law_bag" = true) (k2 : PySem.W.keepIn K (.ref f2) = true)
    (a3 : PySem.W.nsIn K mainGlobals "_law_draw" = some (some (.ref f3))) (l3 : K.lookup f3 = some ⟨oc3, od3, .func (PySem.W.fnOf "_law_draw" "_law_draw" (defArgs s_law_draw) (defBody s_law_draw) (defScope s_law_draw) .none kV3 dc3 pm3 an3 cd3 ct3), sl3⟩) (c3 : PySem.W.codeIn K cd3 "_law_draw" = true) (k3 : PySem.W.keepIn K (.ref f3) = true)
    (a4 : PySem.W.nsIn K mainGlobals "_law_is_whole" = some (some (.ref f4))) (l4 : K.lookup f4 = some ⟨oc4, od4, .func (PySem.W.fnOf "_law_is_whole" "_law_is_whole" (defArgs s_law_is_whole) (defBody s_law_is_whole) (defScope s_law_is_whole) .none kV4 dc4 pm4 an4 cd4 ct4), sl4⟩) (c4 : PySem.W.codeIn K cd4 "_law_is_whole" = true) (k4 : PySem.W.keepIn K (.ref f4) = true)
    (a5 : PySem.W.nsIn K mainGlobals "_law_is_entry" = some (some (.ref f5))) (l5 : K.lookup f5 = some ⟨oc5, od5, .func (PySem.W.fnOf "_law_is_entry" "_law_is_entry" (defArgs s_law_is_entry) (defBody s_law_is_entry) (defScope s_law_is_entry) .none kV5 dc5 pm5 an5 cd5 ct5), sl5⟩) (c5 : PySem.W.codeIn K cd5 "_law_is_entry" = true) (k5 : PySem.W.keepIn K (.ref f5) = true)
    (a6 : PySem.W.nsIn K mainGlobals "_law_counted" = some (some (.ref f6))) (l6 : K.lookup f6 = some ⟨oc6, od6, .func (PySem.W.fnOf "_law_counted" "_law_counted" (defArgs s_law_counted) (defBody s_law_counted) (defScope s_law_counted) .none kV6 dc6 pm6 an6 cd6 ct6), sl6⟩) (c6 : PySem.W.codeIn K cd6 "_law_counted" = true) (k6 : PySem.W.keepIn K (.ref f6) = true)
    (a7 : PySem.W.nsIn K mainGlobals "_law_told_of" = some (some (.ref f7))) (l7 : K.lookup f7 = some ⟨oc7, od7, .func (PySem.W.fnOf "_law_told_of" "_law_told_of" (defArgs s_law_told_of) (defBody s_law_told_of) (defScope s_law_told_of) .none kV7 dc7 pm7 an7 cd7 ct7), sl7⟩) (c7 : PySem.W.codeIn K cd7 "_law_told_of" = true) (k7 : PySem.W.keepIn K (.ref f7) = true)
    (a8 : PySem.W.nsIn K mainGlobals "_law_marked_copy" = some (some (.ref f8))) (l8 : K.lookup f8 = some ⟨oc8, od8, .func (PySem.W.fnOf "_law_marked_copy" "_law_marked_copy" (defArgs s_law_marked_copy) (defBody s_law_marked_copy) (defScope s_law_marked_copy) .none kV8 dc8 pm8 an8 cd8 ct8), sl8⟩) (c8 : PySem.W.codeIn K cd8 "_law_marked_copy" = true) (k8 : PySem.W.keepIn K (.ref f8) = true)
    (a9 : PySem.W.nsIn K mainGlobals "_law_only_in_all_ways" = some (some (.ref f9))) (l9 : K.lookup f9 = some ⟨oc9, od9, .func (PySem.W.fnOf "_law_only_in_all_ways" "_law_only_in_all_ways" (defArgs s_law_only_in_all_ways) (defBody s_law_only_in_all_ways) (defScope s_law_only_in_all_ways) .none kV9 dc9 pm9 an9 cd9 ct9), sl9⟩) (c9 : PySem.W.codeIn K cd9 "_law_only_in_all_ways" = true) (k9 : PySem.W.keepIn K (.ref f9) = true)
    (a10 : PySem.W.nsIn K mainGlobals "law" = some (some (.ref f10))) (l10 : K.lookup f10 = some ⟨oc10, od10, .func (PySem.W.fnOf "law" "law" (defArgs s_law) (defBody s_law) (defScope s_law) .none kV10 dc10 pm10 an10 cd10 ct10), sl10⟩) (c10 : PySem.W.codeIn K cd10 "law" = true) (k10 : PySem.W.keepIn K (.ref f10) = true)
    (z_len : PySem.W.nsIn K mainGlobals "len" = some none)
    (z_abs : PySem.W.nsIn K mainGlobals "abs" = some none)
    (z_sum : PySem.W.nsIn K mainGlobals "sum" = some none)
    (z_max : PySem.W.nsIn K mainGlobals "max" = some none)
    (z_all : PySem.W.nsIn K mainGlobals "all" = some none)
    (z_sorted : PySem.W.nsIn K mainGlobals "sorted" = some none)
    (z_isinstance : PySem.W.nsIn K mainGlobals "isinstance" = some none)
    (z_int : PySem.W.nsIn K mainGlobals "int" = some none)
    (z_bool : PySem.W.nsIn K mainGlobals "bool" = some none)
    (z_str : PySem.W.nsIn K mainGlobals "str" = some none)
    (z_list : PySem.W.nsIn K mainGlobals "list" = some none)
    (z_tuple : PySem.W.nsIn K mainGlobals "tuple" = some none)
    (z_range : PySem.W.nsIn K mainGlobals "range" = some none)
    (z_enumerate : PySem.W.nsIn K mainGlobals "enumerate" = some none)
    : ∃ fd : FuncData, (∀ (s : Shared) (v : Value), BindsTo s fd ⟨[v], []⟩ [("script", v)]) ∧ ∀ base : Heap, K.In base → base.Ns mainGlobals mg → FnOk l.prog w K mg base CX0 3 fa fd ["script"] (spLaw K) := by
  have e := hfa.symm.trans (PySem.W.mg_of X G a10)
  cases e
  have T : Txt mg := ⟨PySem.W.mg_none_of X G z_len, PySem.W.mg_none_of X G z_abs, PySem.W.mg_none_of X G z_sum, PySem.W.mg_none_of X G z_max, PySem.W.mg_none_of X G z_all, PySem.W.mg_none_of X G z_sorted, PySem.W.mg_none_of X G z_isinstance, PySem.W.mg_none_of X G z_int, PySem.W.mg_none_of X G z_bool, PySem.W.mg_none_of X G z_str, PySem.W.mg_none_of X G z_list, PySem.W.mg_none_of X G z_tuple, PySem.W.mg_none_of X G z_range, PySem.W.mg_none_of X G z_enumerate⟩
  refine ⟨PySem.W.fnOf "law" "law" (defArgs s_law) (defBody s_law) (defScope s_law) .none kV10 dc10 pm10 an10 cd10 ct10, fun s v => .of_eq rfl, fun base _ _ => ?_⟩
  have F0 : FunD K "told_counts" "told_counts" (defArgs s_told_counts) (defBody s_told_counts) (defScope s_told_counts) [.non] [] f0 _ := ⟨⟨_, _, _, _, _, _, _, _, _, _, rfl, l0, c0, .inr ⟨by simp, TT, _, [.none], nT, rfl, lT, rfl, .cons rfl .nil⟩, .inl rfl⟩, k0⟩
  obtain ⟨dw, hv, hb⟩ := told_b F0
  have F1 := fun_mk (st := s_sure_entry) l1 c1 k1
  have b1 := F1.binds (ps := ["counts", "could"]) fun _ _ _ _ _ _ us hl => match us, hl with | [_, _], _ => rfl
  have F2 := fun_mk (st := s_law_bag) l2 c2 k2
  have b2 := F2.binds (ps := ["script"]) fun _ _ _ _ _ _ us hl => match us, hl with | [_], _ => rfl
  have F3 := fun_mk (st := s_law_draw) l3 c3 k3
  have b3 := F3.binds (ps := ["bag", "limit"]) fun _ _ _ _ _ _ us hl => match us, hl with | [_, _], _ => rfl
  have F4 := fun_mk (st := s_law_is_whole) l4 c4 k4
  have b4 := F4.binds (ps := ["thing"]) fun _ _ _ _ _ _ us hl => match us, hl with | [_], _ => rfl
  have F5 := fun_mk (st := s_law_is_entry) l5 c5 k5
  have b5 := F5.binds (ps := ["thing"]) fun _ _ _ _ _ _ us hl => match us, hl with | [_], _ => rfl
  have F6 := fun_mk (st := s_law_counted) l6 c6 k6
  have b6 := F6.binds (ps := ["entries"]) fun _ _ _ _ _ _ us hl => match us, hl with | [_], _ => rfl
  have F7 := fun_mk (st := s_law_told_of) l7 c7 k7
  have b7 := F7.binds (ps := ["copies", "name", "key"]) fun _ _ _ _ _ _ us hl => match us, hl with | [_, _, _], _ => rfl
  have F8 := fun_mk (st := s_law_marked_copy) l8 c8 k8
  have b8 := F8.binds (ps := ["bag", "name", "wide", "twice"]) fun _ _ _ _ _ _ us hl => match us, hl with | [_, _, _, _], _ => rfl
  have F9 := fun_mk (st := s_law_only_in_all_ways) l9 c9 k9
  have b9 := F9.binds (ps := ["entries", "could"]) fun _ _ _ _ _ _ us hl => match us, hl with | [_, _], _ => rfl
  let E_sure_entry : Dn l.prog w K mg base "sure_entry" 1 ["counts", "could"] [] [] spSure := ⟨f1, _, ok_sure F1 T, PySem.W.mg_of X G a1, k1, b1, .nil⟩
  let E_law_bag : Dr l.prog w K mg base "_law_bag" 1 ["script"] (spBag K) := ⟨f2, _, ok_bag F2 T, PySem.W.mg_of X G a2, k2, b2, .nil⟩
  let E_law_draw : Dn l.prog w K mg base "_law_draw" 1 ["bag", "limit"] [] [] spDraw := ⟨f3, _, ok_draw F3 T, PySem.W.mg_of X G a3, k3, b3, .nil⟩
  let E_law_is_whole : Dn l.prog w K mg base "_law_is_whole" 1 ["thing"] [] [] spWhole := ⟨f4, _, ok_whole F4 T, PySem.W.mg_of X G a4, k4, b4, .nil⟩
  let E_law_is_entry : Dn l.prog w K mg base "_law_is_entry" 2 ["thing"] [] [] spEntry := ⟨f5, _, ok_entry F5 T E_law_is_whole, PySem.W.mg_of X G a5, k5, b5, .nil⟩
  let E_law_counted : Dn l.prog w K mg base "_law_counted" 1 ["entries"] [] [] spCounted := ⟨f6, _, ok_counted F6 T, PySem.W.mg_of X G a6, k6, b6, .nil⟩
  let E_law_told_of : Dn l.prog w K mg base "_law_told_of" 1 ["copies", "name", "key"] [] [] spToldOf := ⟨f7, _, ok_told_of F7 T, PySem.W.mg_of X G a7, k7, b7, .nil⟩
  let E_law_marked_copy : Dn l.prog w K mg base "_law_marked_copy" 2 ["bag", "name", "wide", "twice"] [] [] spMarked := ⟨f8, _, ok_marked F8 T E_law_draw, PySem.W.mg_of X G a8, k8, b8, .nil⟩
  let E_law_only_in_all_ways : Dn l.prog w K mg base "_law_only_in_all_ways" 1 ["entries", "could"] [] [] spOnly := ⟨f9, _, ok_only F9 T, PySem.W.mg_of X G a9, k9, b9, .nil⟩
  let E_told_counts : Dn l.prog w K mg base "told_counts" 1 ["copies", "name", "key"] [.non] dw spTold := ⟨f0, _, ok_told F0 T, PySem.W.mg_of X G a0, k0, hb, hv⟩
  exact ok_law (fun_mk (st := s_law) l10 c10 k10) T E_law_bag E_law_draw E_law_marked_copy E_told_counts (told_kb F0) E_law_told_of E_law_counted E_law_is_entry E_law_is_whole E_law_only_in_all_ways E_sure_entry
theorem walk {l : PySem.W.OpenLaw} {q : Program} {loose : List Str} {XP : (Str → Option Value) → Heap → Prop} {YP : World → Heap → Prop} {d : DefRec} {K : Params → PySem.W.Frag} (hn : l.most = some 63) (hdf : d.params.defaults = [])
    (hY : ∀ (w : World) (h : Heap), YP w h → (K w.params).In h)
    (F : ∀ (w : World) (mg : Str → Option Value) (fa : Addr) (h : Heap), (K w.params).In h → h.Ns mainGlobals mg → mg d.name = some (.ref fa) →
      ∃ fd : FuncData, (∀ (s : Shared) (u : Value), BindsTo s fd ⟨[u], []⟩ [("script", u)]) ∧ ∀ base : Heap, (K w.params).In base → base.Ns mainGlobals mg → FnOk l.prog w (K w.params) mg base CX0 3 fa fd ["script"] (spLaw (K w.params))) :
    PySem.W.WalkO q loose XP YP l.row.toRowW d [] (fun f vs => PySem.call f vs) :=
  L2.walk_of (n := 63) (k := 3) (x := "script") (CX := fun _ => CX0) (sp := fun w => spLaw (K w.params)) hn (by decide) hdf ⟨rfl, by decide, by decide⟩ hY F (fun _ _ a ns hl _ hS => ⟨a, ns, rfl, hS, hl, fun _ => rfl⟩) fun _ _ _ _ _ z => z
end Toy
open PySem PySem.W PyProof.Rows in
set_option maxRecDepth 100000 in
set_option maxHeartbeats 0 in
theorem PySem.Challenge.cw_askedtrue_k23_whole_sure_in_all_ways_to_holds : PySem.Challenge.rw_askedtrue_k23_whole_sure_in_all_ways_to.Holds := by
  w_on; o_law; k_head; (case hw => w_witness2)
  k_fill
  refine Toy.walk (l := PySem.Challenge.rw_askedtrue_k23_whole_sure_in_all_ways_to) rfl rfl (fun w h Y => PySem.W.kIn_of Y) ?F
  case F =>
    intro w mg fa h KX G hmg
    refine' Toy.all_mk KX G hmg ?a0 ?l0 ?c0 ?k0 ?lT ?a1 ?l1 ?c1 ?k1 ?a2 ?l2 ?c2 ?k2 ?a3 ?l3 ?c3 ?k3 ?a4 ?l4 ?c4 ?k4 ?a5 ?l5 ?c5 ?k5 ?a6 ?l6 ?c6 ?k6 ?a7 ?l7 ?c7 ?k7 ?a8 ?l8 ?c8 ?k8 ?a9 ?l9 ?c9 ?k9 ?a10 ?l10 ?c10 ?k10 ?z_len ?z_abs ?z_sum ?z_max ?z_all ?z_sorted ?z_isinstance ?z_int ?z_bool ?z_str ?z_list ?z_tuple ?z_range ?z_enumerate
    (case a0 => k_is)
    (case l0 => k_is)
    (case c0 => k_is)
    (case k0 => k_is)
    (case lT => k_is)
    (case a1 => k_is)
    (case l1 => k_is)
    (case c1 => k_is)
    (case k1 => k_is)
    (case a2 => k_is)
    (case l2 => k_is)
    (case c2 => k_is)
    (case k2 => k_is)
    (case a3 => k_is)
    (case l3 => k_is)
    (case c3 => k_is)
    (case k3 => k_is)
    (case a4 => k_is)
    (case l4 => k_is)
    (case c4 => k_is)
    (case k4 => k_is)
    (case a5 => k_is)
    (case l5 => k_is)
    (case c5 => k_is)
    (case k5 => k_is)
    (case a6 => k_is)
    (case l6 => k_is)
    (case c6 => k_is)
    (case k6 => k_is)
    (case a7 => k_is)
    (case l7 => k_is)
    (case c7 => k_is)
    (case k7 => k_is)
    (case a8 => k_is)
    (case l8 => k_is)
    (case c8 => k_is)
    (case k8 => k_is)
    (case a9 => k_is)
    (case l9 => k_is)
    (case c9 => k_is)
    (case k9 => k_is)
    (case a10 => k_is)
    (case l10 => k_is)
    (case c10 => k_is)
    (case k10 => k_is)
    (case z_len => k_is)
    (case z_abs => k_is)
    (case z_sum => k_is)
    (case z_max => k_is)
    (case z_all => k_is)
    (case z_sorted => k_is)
    (case z_isinstance => k_is)
    (case z_int => k_is)
    (case z_bool => k_is)
    (case z_str => k_is)
    (case z_list => k_is)
    (case z_tuple => k_is)
    (case z_range => k_is)
    (case z_enumerate => k_is)
