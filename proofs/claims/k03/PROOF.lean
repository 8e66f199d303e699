import PyProof.Rows.All
import Wide.All
import OpenK.AllK
import Wide.FinOn
import HandS.ForMost
import HandS.IsInst
import HandS.Wide
import HandS.Flow
import HandS.TupAny
import HandS.Deep
import HandS.EndBits
import HandS.More
import HandS.TupLe
import HandS.Style
import HandS.FStrTup
import PyProof.Rows.RegStrFacts
import HandS.WordsDict
import HandS.Text
import HandS.Iter
import PyProof.StrBlock2
import PyProof.Rows.StrMul
import PyProof.StrLaws
import PySem.Challenge.RW_wayorring_k03_conditions_read_back
set_option Elab.async false
set_option linter.all false
set_option maxRecDepth 100000
set_option maxHeartbeats 4000000
/-! M0: a small machine over data D (values without addresses), states Ms, and how a heap bears them. -/
namespace M
open PySem L2

inductive D where
  | non | bl (b : Bool) | int (i : Int) | str (s : Str)
  | tup (ds : List D) | lst (ds : List D) | sc (ds : List D)
  | dct (kds : List (Key × D)) | ref (k : Nat)
deriving Inhabited

inductive Cell where
  | lst (ds : List D) | dct (kds : List (Key × D)) | obj (C : Addr) (fs : List (Str × D)) | dT (kds : List (List Key × D))

inductive Slot where
  | emp | val (d : D) | own (c : Cell)

structure Ms where
  r : List Slot
  m : List Cell

inductive Fl where
  | nx | bk | ct | rt (d : D)

mutual
inductive RV (K : PySem.W.Frag) (F : Hp) (io : List Addr) : V → D → Prop
  | non : RV K F io .non .non
  | bl (b : Bool) : RV K F io (.bl b) (.bl b)
  | int (i : Int) : RV K F io (.int i) (.int i)
  | str (s : Str) : RV K F io (.str s) (.str s)
  | tup {a : Addr} {vs : List V} {ds : List D} : SqT K F a vs → RVs K F io vs ds → RV K F io (.ref a) (.tup ds)
  | lst {a : Addr} {vs : List V} {ds : List D} : F a = some (.lst vs) → RVs K F io vs ds → RV K F io (.ref a) (.lst ds)
  | sc {a : Addr} {vs : List V} {ds : List D} : SqL K F a vs → RVs K F io vs ds → RV K F io (.ref a) (.sc ds)
  | dct {a : Addr} {kvs : List (Key × V)} {kds : List (Key × D)} : F a = some (.dK kvs) → RVk K F io kvs kds → RV K F io (.ref a) (.dct kds)
  | ref {a : Addr} {k : Nat} : io[k]? = some a → RV K F io (.ref a) (.ref k)
inductive RVs (K : PySem.W.Frag) (F : Hp) (io : List Addr) : List V → List D → Prop
  | nil : RVs K F io [] []
  | cons {v : V} {vs : List V} {d : D} {ds : List D} : RV K F io v d → RVs K F io vs ds → RVs K F io (v :: vs) (d :: ds)
inductive RVk (K : PySem.W.Frag) (F : Hp) (io : List Addr) : List (Key × V) → List (Key × D) → Prop
  | nil : RVk K F io [] []
  | cons {k : Key} {v : V} {vs : List (Key × V)} {d : D} {ds : List (Key × D)} : RV K F io v d → RVk K F io vs ds → RVk K F io ((k, v) :: vs) ((k, d) :: ds)
end

section
variable {K : PySem.W.Frag} {F F' : Hp} {io io' : List Addr}
theorem sqT_mono {a : Addr} {vs : List V} (hF : ∀ a o, F a = some o → F' a = some o) (h : SqT K F a vs) : SqT K F' a vs := by
  rcases h with (h | ⟨o, h⟩) | h
  · exact .inl (.inl (hF _ _ h))
  · exact .inl (.inr ⟨o, hF _ _ h⟩)
  · exact .inr h
theorem sqL_mono {a : Addr} {vs : List V} (hF : ∀ a o, F a = some o → F' a = some o) (h : SqL K F a vs) : SqL K F' a vs := by
  rcases h with (h | ⟨o, h⟩) | h
  · exact .inl (.inl (hF _ _ h))
  · exact .inl (.inr ⟨o, hF _ _ h⟩)
  · exact .inr h
theorem pre_get {io io' : List Addr} {k : Nat} {a : Addr} (h : io <+: io') (e : io[k]? = some a) : io'[k]? = some a := by
  obtain ⟨r, rfl⟩ := h
  rw [List.getElem?_append_left (List.getElem?_eq_some_iff.mp e).1]
  exact e
theorem RV.mono (hF : ∀ a o, F a = some o → F' a = some o) (hi : io <+: io') {v : V} {d : D} (h : RV K F io v d) : RV K F' io' v d := by
  refine RV.rec (K := K) (F := F) (io := io) (motive_1 := fun v d _ => RV K F' io' v d) (motive_2 := fun vs ds _ => RVs K F' io' vs ds) (motive_3 := fun vs ds _ => RVk K F' io' vs ds) ?_ ?_ ?_ ?_ ?_ ?_ ?_ ?_ ?_ ?_ ?_ ?_ ?_ h
  · exact .non
  · exact .bl
  · exact .int
  · exact .str
  · exact fun h _ ih => .tup (sqT_mono hF h) ih
  · exact fun h _ ih => .lst (hF _ _ h) ih
  · exact fun h _ ih => .sc (sqL_mono hF h) ih
  · exact fun h _ ih => .dct (hF _ _ h) ih
  · exact fun h => .ref (pre_get hi h)
  · exact .nil
  · exact fun _ _ i1 i2 => .cons i1 i2
  · exact .nil
  · exact fun _ _ i1 i2 => .cons i1 i2
theorem RVs.mono (hF : ∀ a o, F a = some o → F' a = some o) (hi : io <+: io') : ∀ {vs : List V} {ds : List D}, RVs K F io vs ds → RVs K F' io' vs ds
  | _, _, .nil => .nil
  | _, _, .cons h t => .cons (h.mono hF hi) (RVs.mono hF hi t)
theorem RVk.mono (hF : ∀ a o, F a = some o → F' a = some o) (hi : io <+: io') : ∀ {vs : List (Key × V)} {ds : List (Key × D)}, RVk K F io vs ds → RVk K F' io' vs ds
  | _, _, .nil => .nil
  | _, _, .cons h t => .cons (h.mono hF hi) (RVk.mono hF hi t)
theorem RVs.length : ∀ {vs : List V} {ds : List D}, RVs K F io vs ds → vs.length = ds.length
  | _, _, .nil => rfl
  | _, _, .cons _ t => by simp [t.length]
theorem RVs.get : ∀ {vs : List V} {ds : List D} {i : Nat} {d : D}, RVs K F io vs ds → ds[i]? = some d → ∃ v, vs[i]? = some v ∧ RV K F io v d
  | _, _, _, _, .nil, e => by simp at e
  | _, _, 0, _, .cons h _, e => by simp at e; subst e; exact ⟨_, rfl, h⟩
  | _, _, i + 1, _, .cons _ t, e => by simpa using RVs.get (i := i) t (by simpa using e)
theorem RVs.append : ∀ {vs ws : List V} {ds es : List D}, RVs K F io vs ds → RVs K F io ws es → RVs K F io (vs ++ ws) (ds ++ es)
  | _, _, _, _, .nil, s => s
  | _, _, _, _, .cons h t, s => .cons h (t.append s)
theorem RVs.set : ∀ {vs : List V} {ds : List D} {v : V} {d : D} (j : Nat), RVs K F io vs ds → RV K F io v d → RVs K F io (vs.set j v) (ds.set j d)
  | _, _, _, _, _, .nil, _ => .nil
  | _, _, _, _, 0, .cons _ t, h => .cons h t
  | _, _, _, _, j + 1, .cons q t, h => .cons q (RVs.set j t h)
theorem RVs.drop : ∀ {vs : List V} {ds : List D} (n : Nat), RVs K F io vs ds → RVs K F io (vs.drop n) (ds.drop n)
  | _, _, 0, h => h
  | _, _, _ + 1, .nil => .nil
  | _, _, n + 1, .cons _ t => RVs.drop n t
theorem RVs.take : ∀ {vs : List V} {ds : List D} (n : Nat), RVs K F io vs ds → RVs K F io (vs.take n) (ds.take n)
  | _, _, 0, _ => .nil
  | _, _, _ + 1, .nil => .nil
  | _, _, n + 1, .cons h t => .cons h (RVs.take n t)
theorem RVs.dropLast {vs : List V} {ds : List D} (h : RVs K F io vs ds) : RVs K F io vs.dropLast ds.dropLast := by
  rw [List.dropLast_eq_take, List.dropLast_eq_take, h.length]
  exact h.take _
theorem RVs.reverse : ∀ {vs : List V} {ds : List D}, RVs K F io vs ds → RVs K F io vs.reverse ds.reverse
  | _, _, .nil => .nil
  | _, _, .cons h t => by
    rw [List.reverse_cons, List.reverse_cons]
    exact t.reverse.append (.cons h .nil)
theorem RVs.ints (ns : List Int) : RVs K F io (ns.map V.int) (ns.map D.int) := by
  induction ns with
  | nil => exact .nil
  | cons n r ih => exact .cons (.int n) ih
theorem RV.int_inv {v : V} {i : Int} (h : RV K F io v (.int i)) : v = .int i := by cases h; rfl
theorem RV.bl_inv {v : V} {i : Bool} (h : RV K F io v (.bl i)) : v = .bl i := by cases h; rfl
theorem RV.str_inv {v : V} {i : Str} (h : RV K F io v (.str i)) : v = .str i := by cases h; rfl
theorem RV.non_inv {v : V} (h : RV K F io v .non) : v = .non := by cases h; rfl
theorem RV.tup_inv {v : V} {ds : List D} (h : RV K F io v (.tup ds)) : ∃ a vs, v = .ref a ∧ SqT K F a vs ∧ RVs K F io vs ds := by
  cases h with
  | tup h1 h2 => exact ⟨_, _, rfl, h1, h2⟩
theorem RV.lst_inv {v : V} {ds : List D} (h : RV K F io v (.lst ds)) : ∃ a vs, v = .ref a ∧ F a = some (.lst vs) ∧ RVs K F io vs ds := by
  cases h with
  | lst h1 h2 => exact ⟨_, _, rfl, h1, h2⟩
theorem RV.sc_inv {v : V} {ds : List D} (h : RV K F io v (.sc ds)) : ∃ a vs, v = .ref a ∧ SqL K F a vs ∧ RVs K F io vs ds := by
  cases h with
  | sc h1 h2 => exact ⟨_, _, rfl, h1, h2⟩
theorem RV.dct_inv {v : V} {ds : List (Key × D)} (h : RV K F io v (.dct ds)) : ∃ a vs, v = .ref a ∧ F a = some (.dK vs) ∧ RVk K F io vs ds := by
  cases h with
  | dct h1 h2 => exact ⟨_, _, rfl, h1, h2⟩
theorem RV.ref_inv {v : V} {k : Nat} (h : RV K F io v (.ref k)) : ∃ a, v = .ref a ∧ io[k]? = some a := by
  cases h with
  | ref h => exact ⟨_, rfl, h⟩
end

/-- the frozen part, the heap, where the cells stand -/
structure Wd where
  F : Hp
  H : Hp
  io : List Addr

def RF (K : PySem.W.Frag) (W : Wd) : List (Str × V) → List (Str × D) → Prop := Paired fun (p : Str × V) (q : Str × D) => p.1 = q.1 ∧ RV K W.F W.io p.2 q.2
def RT (K : PySem.W.Frag) (W : Wd) : List (List Key × V) → List (List Key × D) → Prop := Paired fun (p : List Key × V) (q : List Key × D) => p.1 = q.1 ∧ RV K W.F W.io p.2 q.2
def CR (K : PySem.W.Frag) (W : Wd) (a : Addr) : Cell → Prop
  | .lst ds => ∃ vs, W.H a = some (.lst vs) ∧ RVs K W.F W.io vs ds
  | .dct kds => ∃ kvs, W.H a = some (.dK kvs) ∧ RVk K W.F W.io kvs kds
  | .obj C fs => ∃ dx fvs, W.H a = some (.ins C dx fvs) ∧ RF K W fvs fs
  | .dT kds => ∃ kvs, W.H a = some (.dT kvs) ∧ RT K W kvs kds

def Own (r : List Slot) (s : L2.St) (b : Addr) : Prop := ∃ (i : Nat) (c : Cell), r[i]? = some (Slot.own c) ∧ s[i]? = some (some (.ref b))
def Mine (W : Wd) (r : List Slot) (s : L2.St) (b : Addr) : Prop := (∃ o, W.F b = some o) ∨ b ∈ W.io ∨ Own r s b

structure Rel (K : PySem.W.Frag) (W : Wd) (S : Ms) (s : L2.St) : Prop where
  sub : ∀ a o, W.F a = some o → W.H a = some o
  nd : W.io.Nodup
  nf : ∀ a ∈ W.io, W.F a = none
  len : W.io.length = S.m.length
  cells : ∀ (k : Nat) c a, S.m[k]? = some c → W.io[k]? = some a → CR K W a c
  sl : s.length = S.r.length
  slots : ∀ (i : Nat) d, S.r[i]? = some (Slot.val d) → ∃ v, s[i]? = some (some v) ∧ RV K W.F W.io v d
  owns : ∀ (i : Nat) c, S.r[i]? = some (Slot.own c) → ∃ a, s[i]? = some (some (.ref a)) ∧ W.F a = none ∧ a ∉ W.io ∧ CR K W a c
  odis : ∀ (i j : Nat) c c' a, S.r[i]? = some (Slot.own c) → S.r[j]? = some (Slot.own c') → s[i]? = some (some (.ref a)) → s[j]? = some (some (.ref a)) → i = j

structure Fr (W : Wd) (r : List Slot) (s : L2.St) (W' : Wd) (r' : List Slot) (s' : L2.St) : Prop where
  fx : ∀ a o, W.F a = some o → W'.F a = some o
  ix : W.io <+: W'.io
  ot : ∀ b o, W.H b = some o → ¬ Mine W r s b → W'.H b = some o ∧ ¬ Mine W' r' s' b
  hp : ∀ b, W'.H b = none → W.H b = none

section
variable {K : PySem.W.Frag} {W W1 W2 : Wd} {S S1 : Ms} {r r1 r2 : List Slot} {s s1 s2 : L2.St}
theorem Fr.refl : Fr W r s W r s := ⟨fun _ _ h => h, List.prefix_refl _, fun _ _ h n => ⟨h, n⟩, fun _ h => h⟩
theorem Fr.trans (a : Fr W r s W1 r1 s1) (b : Fr W1 r1 s1 W2 r2 s2) : Fr W r s W2 r2 s2 :=
  ⟨fun c o h => b.fx c o (a.fx c o h), a.ix.trans b.ix, fun c o h n => let ⟨h1, n1⟩ := a.ot c o h n; b.ot c o h1 n1, fun c h => a.hp c (b.hp c h)⟩
theorem RV.up {v : V} {d : D} (h : RV K W.F W.io v d) (f : Fr W r s W1 r1 s1) : RV K W1.F W1.io v d := h.mono f.fx f.ix
theorem RVs.up {v : List V} {d : List D} (h : RVs K W.F W.io v d) (f : Fr W r s W1 r1 s1) : RVs K W1.F W1.io v d := h.mono f.fx f.ix
theorem RVk.up {v : List (Key × V)} {d : List (Key × D)} (h : RVk K W.F W.io v d) (f : Fr W r s W1 r1 s1) : RVk K W1.F W1.io v d := h.mono f.fx f.ix

def Wd.al (W : Wd) (p : Addr) (o : HO) : Wd := ⟨upd W.F p o, upd W.H p o, W.io⟩
/-- the heap alone is written, at p -/
def Wd.wr (W : Wd) (p : Addr) (o : HO) : Wd := ⟨W.F, upd W.H p o, W.io⟩
def Wd.fz (W : Wd) (p : Addr) (o : HO) : Wd := ⟨upd W.F p o, W.H, W.io⟩
def Wd.cl (W : Wd) (p : Addr) : Wd := ⟨W.F, W.H, W.io ++ [p]⟩

theorem RF.mono {W W' : Wd} (hF : ∀ a o, W.F a = some o → W'.F a = some o) (hi : W.io <+: W'.io) : ∀ {a b}, RF K W a b → RF K W' a b
  | _, _, .nil => .nil
  | _, _, .cons h t => .cons ⟨h.1, h.2.mono hF hi⟩ (RF.mono hF hi t)
theorem RT.mono {W W' : Wd} (hF : ∀ a o, W.F a = some o → W'.F a = some o) (hi : W.io <+: W'.io) : ∀ {a b}, RT K W a b → RT K W' a b
  | _, _, .nil => .nil
  | _, _, .cons h t => .cons ⟨h.1, h.2.mono hF hi⟩ (RT.mono hF hi t)
theorem CR.mono {W W' : Wd} {a : Addr} {c : Cell} (hF : ∀ a o, W.F a = some o → W'.F a = some o) (hi : W.io <+: W'.io) (hH : ∀ o, W.H a = some o → W'.H a = some o) (h : CR K W a c) : CR K W' a c := by
  cases c with
  | lst ds => obtain ⟨vs, h1, h2⟩ := h; exact ⟨vs, hH _ h1, h2.mono hF hi⟩
  | dct ds => obtain ⟨vs, h1, h2⟩ := h; exact ⟨vs, hH _ h1, h2.mono hF hi⟩
  | obj C fs => obtain ⟨dx, fv, h1, h2⟩ := h; exact ⟨dx, fv, hH _ h1, h2.mono hF hi⟩
  | dT ds => obtain ⟨vs, h1, h2⟩ := h; exact ⟨vs, hH _ h1, h2.mono hF hi⟩
theorem CR.there {a : Addr} {c : Cell} (h : CR K W a c) : ∃ o, W.H a = some o := by
  cases c with
  | lst ds => obtain ⟨vs, h1, h2⟩ := h; exact ⟨_, h1⟩
  | dct ds => obtain ⟨vs, h1, h2⟩ := h; exact ⟨_, h1⟩
  | obj C fs => obtain ⟨dx, fv, h1, h2⟩ := h; exact ⟨_, h1⟩
  | dT ds => obtain ⟨vs, h1, h2⟩ := h; exact ⟨_, h1⟩
theorem Rel.ioThere (R : Rel K W S s) {a : Addr} (h : a ∈ W.io) : ∃ o, W.H a = some o := by
  obtain ⟨k, hk, e⟩ := List.getElem_of_mem h
  have h1 : W.io[k]? = some a := by rw [List.getElem?_eq_getElem hk, e]
  have h2 : k < S.m.length := by rw [← R.len]; exact hk
  exact (R.cells k _ a (List.getElem?_eq_getElem h2) h1).there
theorem Rel.freshIo (R : Rel K W S s) {p : Addr} (h : W.H p = none) : p ∉ W.io := fun q => by
  obtain ⟨o, e⟩ := R.ioThere q
  rw [h] at e; cases e
theorem Rel.freshF (R : Rel K W S s) {p : Addr} (h : W.H p = none) : W.F p = none := by
  cases e : W.F p with
  | none => rfl
  | some o => have := R.sub p o e; rw [h] at this; cases this
theorem Rel.freshOwn (R : Rel K W S s) {p : Addr} (h : W.H p = none) : ¬ Own S.r s p := fun ⟨i, c, e1, e2⟩ => by
  obtain ⟨a, h1, _, _, h2⟩ := R.owns i c e1
  rw [e2] at h1; cases h1
  obtain ⟨o, e⟩ := h2.there
  rw [h] at e; cases e

theorem upd_none {H : Hp} {p : Addr} {o : HO} {b : Addr} (h : upd H p o b = none) : H b = none := by
  unfold upd at h
  split at h
  · cases h
  · exact h
theorem upd_keep {H : Hp} {p : Addr} {o : HO} (hp : H p = none) : ∀ a u, H a = some u → upd H p o a = some u := fun a u h => by
  rw [upd_ne (ne_of_none h hp)]; exact h
/-- a new object, frozen at once -/
theorem Rel.al (R : Rel K W S s) {p : Addr} {o : HO} (hp : W.H p = none) : Rel K (W.al p o) S s ∧ Fr W S.r s (W.al p o) S.r s := by
  have fF := R.freshF hp
  have hF : ∀ a u, W.F a = some u → (W.al p o).F a = some u := upd_keep fF
  have hH : ∀ a u, W.H a = some u → (W.al p o).H a = some u := upd_keep hp
  have hi : W.io <+: (W.al p o).io := List.prefix_refl _
  refine ⟨⟨fun a u h => ?_, R.nd, fun a h => ?_, R.len, fun k c a h1 h2 => (R.cells k c a h1 h2).mono hF hi (hH a), R.sl, fun i d h => ?_, fun i c h => ?_, R.odis⟩, ⟨hF, hi, fun b u h n => ⟨hH b u h, fun m => n ?_⟩, fun _ h => upd_none h⟩⟩
  · show upd W.H p o a = some u
    by_cases e : a = p
    · subst e
      have h' : upd W.F a o a = some u := h
      rw [upd_same] at h' ⊢; exact h'
    · have h' : upd W.F p o a = some u := h
      rw [upd_ne e] at h' ⊢; exact R.sub a u h'
  · show upd W.F p o a = none
    have e : a ≠ p := fun e => R.freshIo hp (e ▸ h)
    rw [upd_ne e]; exact R.nf a h
  · obtain ⟨v, e, q⟩ := R.slots i d h
    exact ⟨v, e, q.mono hF hi⟩
  · obtain ⟨a, e, n1, n2, q⟩ := R.owns i c h
    refine ⟨a, e, ?_, n2, q.mono hF hi (hH a)⟩
    have e : a ≠ p := fun e => by obtain ⟨u, z⟩ := q.there; rw [e, hp] at z; cases z
    show upd W.F p o a = none
    rw [upd_ne e]; exact n1
  · rcases m with ⟨u', e⟩ | e | e
    · have e' : upd W.F p o b = some u' := e
      have nb : b ≠ p := ne_of_none h hp
      rw [upd_ne nb] at e'
      exact .inl ⟨u', e'⟩
    · exact .inr (.inl e)
    · exact .inr (.inr e)
/-- a new object that nobody holds yet -/
structure New (K : PySem.W.Frag) (W : Wd) (S : Ms) (s : L2.St) (p : Addr) (c : Cell) : Prop where
  nf : W.F p = none
  ni : p ∉ W.io
  no : ¬ Own S.r s p
  cr : CR K W p c
theorem Rel.wrNew (R : Rel K W S s) {p : Addr} {o : HO} (hp : W.H p = none) : Rel K (W.wr p o) S s ∧ Fr W S.r s (W.wr p o) S.r s := by
  have hF : ∀ a u, W.F a = some u → (W.wr p o).F a = some u := fun _ _ h => h
  have hH : ∀ a u, W.H a = some u → (W.wr p o).H a = some u := upd_keep hp
  have hi : W.io <+: (W.wr p o).io := List.prefix_refl _
  refine ⟨⟨fun a u h => hH a u (R.sub a u h), R.nd, R.nf, R.len, fun k c a h1 h2 => (R.cells k c a h1 h2).mono hF hi (hH a), R.sl, fun i d h => R.slots i d h, fun i c h => ?_, R.odis⟩, ⟨hF, hi, fun b u h n => ⟨hH b u h, n⟩, fun _ h => upd_none h⟩⟩
  obtain ⟨a, e, n1, n2, q⟩ := R.owns i c h
  exact ⟨a, e, n1, n2, q.mono hF hi (hH a)⟩
theorem Rel.newLst (R : Rel K W S s) {p : Addr} {vs : List V} {ds : List D} (hp : W.H p = none) (h : RVs K W.F W.io vs ds) :
    Rel K (W.wr p (.lst vs)) S s ∧ Fr W S.r s (W.wr p (.lst vs)) S.r s ∧ New K (W.wr p (.lst vs)) S s p (.lst ds) := by
  obtain ⟨R1, f1⟩ := R.wrNew (o := .lst vs) hp
  exact ⟨R1, f1, R.freshF hp, R.freshIo hp, R.freshOwn hp, vs, upd_same, h⟩
/-- it is frozen -/
theorem Rel.freeze {W0 : Wd} {r0 : List Slot} {s0 : L2.St} (R : Rel K W S s) (f0 : Fr W0 r0 s0 W S.r s) {p : Addr} {c : Cell} (hp0 : W0.H p = none) (n : New K W S s p c) {o : HO} (ho : W.H p = some o) :
    Rel K (W.fz p o) S s ∧ Fr W0 r0 s0 (W.fz p o) S.r s ∧ (∀ a u, W.F a = some u → (W.fz p o).F a = some u) := by
  have hF : ∀ a u, W.F a = some u → (W.fz p o).F a = some u := upd_keep n.nf
  have hi : W.io <+: (W.fz p o).io := List.prefix_refl _
  refine ⟨⟨fun a u h => ?_, R.nd, fun a h => ?_, R.len, fun k c a e1 e2 => (R.cells k c a e1 e2).mono hF hi (fun _ h => h), R.sl, fun i d h => ?_, fun i c h => ?_, R.odis⟩, ⟨fun a u h => hF a u (f0.fx a u h), f0.ix, fun b u h nm => ?_, f0.hp⟩, hF⟩
  · show W.H a = some u
    have h' : upd W.F p o a = some u := h
    by_cases e : a = p
    · subst e; rw [upd_same] at h'; cases h'; exact ho
    · rw [upd_ne e] at h'; exact R.sub a u h'
  · show upd W.F p _ a = none
    have e : a ≠ p := fun e => n.ni (by rw [← e]; exact h)
    rw [upd_ne e]; exact R.nf a h
  · obtain ⟨v, e, q⟩ := R.slots i d h
    exact ⟨v, e, q.mono hF hi⟩
  · obtain ⟨a, e, n1, n2, q⟩ := R.owns i c h
    refine ⟨a, e, ?_, n2, q.mono hF hi (fun _ h => h)⟩
    show upd W.F p _ a = none
    rw [upd_ne (fun z => n.no ⟨i, c, h, by rw [← z]; exact e⟩)]; exact n1
  · obtain ⟨h1, n1⟩ := f0.ot b u h nm
    refine ⟨h1, fun m => n1 ?_⟩
    rcases m with ⟨u', e⟩ | e | e
    · have e' : upd W.F p o b = some u' := e
      rw [upd_ne (ne_of_none h hp0)] at e'
      exact .inl ⟨u', e'⟩
    · exact .inr (.inl e)
    · exact .inr (.inr e)
theorem Rel.freezeLst {W0 : Wd} {r0 : List Slot} {s0 : L2.St} (R : Rel K W S s) (f0 : Fr W0 r0 s0 W S.r s) {p : Addr} {ds : List D} (hp0 : W0.H p = none) (n : New K W S s p (.lst ds)) :
    ∃ W', W'.H = W.H ∧ Rel K W' S s ∧ Fr W0 r0 s0 W' S.r s ∧ RV K W'.F W'.io (.ref p) (.lst ds) := by
  obtain ⟨vs, h1, h2⟩ := n.cr
  obtain ⟨R1, f1, hF⟩ := R.freeze f0 hp0 n h1
  exact ⟨W.fz p (.lst vs), rfl, R1, f1, .lst upd_same (h2.mono hF (List.prefix_refl _))⟩
theorem Rel.freezeDct {W0 : Wd} {r0 : List Slot} {s0 : L2.St} (R : Rel K W S s) (f0 : Fr W0 r0 s0 W S.r s) {p : Addr} {ds : List (Key × D)} (hp0 : W0.H p = none) (n : New K W S s p (.dct ds)) :
    ∃ W', W'.H = W.H ∧ Rel K W' S s ∧ Fr W0 r0 s0 W' S.r s ∧ RV K W'.F W'.io (.ref p) (.dct ds) := by
  obtain ⟨vs, h1, h2⟩ := n.cr
  obtain ⟨R1, f1, hF⟩ := R.freeze f0 hp0 n h1
  exact ⟨W.fz p (.dK vs), rfl, R1, f1, .dct upd_same (h2.mono hF (List.prefix_refl _))⟩

/-! ### slots -/
theorem own_set {i : Nat} {x : Slot} {v : Option V} {b : Addr} (h : Own (r.set i x) (s.set i v) b) (hl : s.length = r.length) : Own r s b ∨ (∃ c, x = .own c ∧ v = some (.ref b)) := by
  obtain ⟨j, c, e1, e2⟩ := h
  by_cases hj : i = j
  · subst hj
    by_cases hi : i < r.length
    · rw [List.getElem?_set_self hi] at e1
      rw [List.getElem?_set_self (by omega)] at e2
      cases e1; cases e2
      exact .inr ⟨c, rfl, rfl⟩
    · rw [List.getElem?_eq_none (by simpa using hi)] at e1; cases e1
  · rw [List.getElem?_set_ne hj] at e1 e2
    exact .inl ⟨j, c, e1, e2⟩
theorem Rel.setVal (R : Rel K W S s) {i : Nat} {v : V} {d : D} (h : RV K W.F W.io v d) : Rel K W { S with r := S.r.set i (Slot.val d) } (s.set i (some v)) ∧ Fr W S.r s W (S.r.set i (Slot.val d)) (s.set i (some v)) := by
  refine ⟨⟨R.sub, R.nd, R.nf, R.len, R.cells, by simp [R.sl], fun j e hj => ?_, fun j c hj => ?_, fun j k c c' a e1 e2 e3 e4 => ?_⟩, ⟨fun _ _ h => h, List.prefix_refl _, fun b u hb n => ⟨hb, fun m => n ?_⟩, fun _ h => h⟩⟩
  · by_cases e1 : i = j
    · subst e1
      by_cases hi : i < S.r.length
      · rw [List.getElem?_set_self hi] at hj; cases hj
        exact ⟨v, by rw [List.getElem?_set_self (by rw [R.sl]; exact hi)], h⟩
      · rw [List.getElem?_eq_none (by simpa using hi)] at hj; cases hj
    · rw [List.getElem?_set_ne e1] at hj ⊢
      exact R.slots j e hj
  · by_cases e1 : i = j
    · subst e1
      by_cases hi : i < S.r.length
      · rw [List.getElem?_set_self hi] at hj; cases hj
      · rw [List.getElem?_eq_none (by simpa using hi)] at hj; cases hj
    · rw [List.getElem?_set_ne e1] at hj ⊢
      exact R.owns j c hj
  · have q : ∀ j c, (S.r.set i (Slot.val d))[j]? = some (Slot.own c) → i ≠ j := fun j c e z => by
      subst z
      by_cases hi : i < S.r.length
      · rw [List.getElem?_set_self hi] at e; cases e
      · rw [List.getElem?_eq_none (by simpa using hi)] at e; cases e
    have q1 := q j c e1
    have q2 := q k c' e2
    rw [List.getElem?_set_ne q1] at e1 e3
    rw [List.getElem?_set_ne q2] at e2 e4
    exact R.odis j k c c' a e1 e2 e3 e4
  · rcases m with m | m | m
    · exact .inl m
    · exact .inr (.inl m)
    · rcases own_set m R.sl with m | ⟨c, e, _⟩
      · exact .inr (.inr m)
      · cases e
/-- a slot takes a new object for its own -/
theorem Rel.setOwn {W0 : Wd} {r0 : List Slot} {s0 : L2.St} (R : Rel K W S s) (f0 : Fr W0 r0 s0 W S.r s) {i : Nat} {p : Addr} {c : Cell} (hp0 : W0.H p = none) (n : New K W S s p c) :
    Rel K W { S with r := S.r.set i (Slot.own c) } (s.set i (some (.ref p))) ∧ Fr W0 r0 s0 W (S.r.set i (Slot.own c)) (s.set i (some (.ref p))) := by
  have inv : ∀ j c', (S.r.set i (Slot.own c))[j]? = some (Slot.own c') → (j = i ∧ c' = c ∧ i < S.r.length) ∨ (i ≠ j ∧ S.r[j]? = some (Slot.own c')) := fun j c' e => by
    by_cases e1 : i = j
    · subst e1
      by_cases hi : i < S.r.length
      · rw [List.getElem?_set_self hi] at e; cases e; exact .inl ⟨rfl, rfl, hi⟩
      · rw [List.getElem?_eq_none (by simpa using hi)] at e; cases e
    · rw [List.getElem?_set_ne e1] at e; exact .inr ⟨e1, e⟩
  refine ⟨⟨R.sub, R.nd, R.nf, R.len, R.cells, by simp [R.sl], fun j e hj => ?_, fun j c' hj => ?_, fun j k c1 c2 a e1 e2 e3 e4 => ?_⟩, ⟨f0.fx, f0.ix, fun b u hb nm => ?_, f0.hp⟩⟩
  · by_cases e1 : i = j
    · subst e1
      by_cases hi : i < S.r.length
      · rw [List.getElem?_set_self hi] at hj; cases hj
      · rw [List.getElem?_eq_none (by simpa using hi)] at hj; cases hj
    · rw [List.getElem?_set_ne e1] at hj ⊢
      exact R.slots j e hj
  · rcases inv j c' hj with ⟨rfl, rfl, hi⟩ | ⟨ne, e⟩
    · exact ⟨p, by rw [List.getElem?_set_self (by rw [R.sl]; exact hi)], n.nf, n.ni, n.cr⟩
    · rw [List.getElem?_set_ne ne]; exact R.owns j c' e
  · rcases inv j c1 e1 with ⟨rfl, rfl, hi⟩ | ⟨ne, e⟩
    · rcases inv k c2 e2 with ⟨rfl, rfl, _⟩ | ⟨ne', e'⟩
      · rfl
      · rw [List.getElem?_set_self (by rw [R.sl]; exact hi)] at e3; cases e3
        rw [List.getElem?_set_ne ne'] at e4
        exact absurd ⟨k, c2, e', e4⟩ n.no
    · rcases inv k c2 e2 with ⟨rfl, rfl, hi⟩ | ⟨ne', e'⟩
      · rw [List.getElem?_set_self (by rw [R.sl]; exact hi)] at e4; cases e4
        rw [List.getElem?_set_ne ne] at e3
        exact absurd ⟨j, c1, e, e3⟩ n.no
      · rw [List.getElem?_set_ne ne] at e3
        rw [List.getElem?_set_ne ne'] at e4
        exact R.odis j k c1 c2 a e e' e3 e4
  · obtain ⟨h1, n1⟩ := f0.ot b u hb nm
    refine ⟨h1, fun m => n1 ?_⟩
    rcases m with m | m | m
    · exact .inl m
    · exact .inr (.inl m)
    · rcases own_set m R.sl with m | ⟨c', _, e⟩
      · exact .inr (.inr m)
      · cases e
        rw [hp0] at hb; cases hb
/-- a new object becomes a cell -/
theorem Rel.addCell {W0 : Wd} {r0 : List Slot} {s0 : L2.St} (R : Rel K W S s) (f0 : Fr W0 r0 s0 W S.r s) {p : Addr} {c : Cell} (hp0 : W0.H p = none) (n : New K W S s p c) :
    Rel K (W.cl p) { S with m := S.m ++ [c] } s ∧ Fr W0 r0 s0 (W.cl p) S.r s ∧ RV K (W.cl p).F (W.cl p).io (.ref p) (.ref S.m.length) := by
  have hi : W.io <+: (W.cl p).io := List.prefix_append _ _
  have hF : ∀ a u, W.F a = some u → (W.cl p).F a = some u := fun _ _ h => h
  refine ⟨⟨R.sub, ?_, fun a h => ?_, by simp [Wd.cl, R.len], fun k c' a e1 e2 => ?_, R.sl, fun i d h => ?_, fun i c' h => ?_, R.odis⟩, ⟨f0.fx, f0.ix.trans hi, fun b u hb nm => ?_, f0.hp⟩, .ref ?_⟩
  · show (W.io ++ [p]).Nodup
    rw [List.nodup_append]
    exact ⟨R.nd, by simp, fun a ha b hb e => n.ni (by simp at hb; rw [← hb, ← e]; exact ha)⟩
  · rcases List.mem_append.mp h with h | h
    · exact R.nf a h
    · simp at h; subst h; exact n.nf
  · have e2' : (W.io ++ [p])[k]? = some a := e2
    by_cases hk : k < S.m.length
    · rw [List.getElem?_append_left hk] at e1
      rw [List.getElem?_append_left (by rw [R.len]; exact hk)] at e2'
      exact (R.cells k c' a e1 e2').mono hF hi (fun _ h => h)
    · rw [List.getElem?_append_right (by omega)] at e1
      rw [List.getElem?_append_right (by rw [R.len]; omega)] at e2'
      have hk0 : k - S.m.length = 0 := by
        have := (List.getElem?_eq_some_iff.mp e1).1
        simp at this; omega
      rw [hk0] at e1
      rw [R.len, hk0] at e2'
      simp at e1 e2'
      subst e1; subst e2'
      exact n.cr.mono hF hi (fun _ h => h)
  · obtain ⟨v, e, q⟩ := R.slots i d h
    exact ⟨v, e, q.mono hF hi⟩
  · obtain ⟨a, e, n1, n2, q⟩ := R.owns i c' h
    refine ⟨a, e, n1, fun z => ?_, q.mono hF hi (fun _ h => h)⟩
    rcases List.mem_append.mp z with z | z
    · exact n2 z
    · simp at z; subst z; exact n.no ⟨i, c', h, e⟩
  · obtain ⟨h1, n1⟩ := f0.ot b u hb nm
    refine ⟨h1, fun m => n1 ?_⟩
    rcases m with m | m | m
    · exact .inl m
    · rcases List.mem_append.mp m with m | m
      · exact .inr (.inl m)
      · simp at m; subst m; rw [hp0] at hb; cases hb
    · exact .inr (.inr m)
  · show (W.io ++ [p])[S.m.length]? = some p
    rw [List.getElem?_append_right (by rw [R.len]; exact Nat.le_refl _), R.len]
    simp
/-- an own slot is read as a value: frozen -/
theorem Rel.slotFreeze (R : Rel K W S s) {i : Nat} {c : Cell} (hi : S.r[i]? = some (Slot.own c)) {a : Addr} (ha : s[i]? = some (some (.ref a))) {o : HO} (ho : W.H a = some o) {d : D}
    (hd : RV K (W.fz a o).F W.io (.ref a) d) : Rel K (W.fz a o) { S with r := S.r.set i (Slot.val d) } s ∧ Fr W S.r s (W.fz a o) (S.r.set i (Slot.val d)) s := by
  obtain ⟨a', e', n1, n2, q⟩ := R.owns i c hi
  rw [ha] at e'; cases e'
  have hil := (List.getElem?_eq_some_iff.mp hi).1
  have hF : ∀ b u, W.F b = some u → (W.fz a o).F b = some u := upd_keep n1
  have hio : W.io <+: (W.fz a o).io := List.prefix_refl _
  have inv : ∀ j c', (S.r.set i (Slot.val d))[j]? = some (Slot.own c') → i ≠ j ∧ S.r[j]? = some (Slot.own c') := fun j c' e => by
    by_cases e1 : i = j
    · subst e1
      rw [List.getElem?_set_self hil] at e; cases e
    · rw [List.getElem?_set_ne e1] at e; exact ⟨e1, e⟩
  refine ⟨⟨fun b u h => ?_, R.nd, fun b h => ?_, R.len, fun k c' b e1 e2 => (R.cells k c' b e1 e2).mono hF hio (fun _ h => h), by simp [R.sl], fun j e hj => ?_, fun j c' hj => ?_, fun j k c1 c2 b e1 e2 e3 e4 => ?_⟩, ⟨hF, hio, fun b u hb nm => ⟨hb, fun m => nm ?_⟩, fun _ h => h⟩⟩
  · show W.H b = some u
    have h' : upd W.F a o b = some u := h
    by_cases e : b = a
    · subst e; rw [upd_same] at h'; cases h'; exact ho
    · rw [upd_ne e] at h'; exact R.sub b u h'
  · show upd W.F a o b = none
    have e : b ≠ a := fun e => n2 (by rw [← e]; exact h)
    rw [upd_ne e]; exact R.nf b h
  · by_cases e1 : i = j
    · subst e1
      rw [List.getElem?_set_self hil] at hj; cases hj
      exact ⟨_, ha, hd⟩
    · rw [List.getElem?_set_ne e1] at hj
      obtain ⟨v, e, q⟩ := R.slots j e hj
      exact ⟨v, e, q.mono hF hio⟩
  · obtain ⟨ne, e⟩ := inv j c' hj
    obtain ⟨b, e2, m1, m2, q⟩ := R.owns j c' e
    refine ⟨b, e2, ?_, m2, q.mono hF hio (fun _ h => h)⟩
    show upd W.F a o b = none
    have nb : b ≠ a := fun z => by subst z; exact ne (R.odis i j _ _ b hi e ha e2)
    rw [upd_ne nb]; exact m1
  · obtain ⟨_, e1'⟩ := inv j c1 e1
    obtain ⟨_, e2'⟩ := inv k c2 e2
    exact R.odis j k c1 c2 b e1' e2' e3 e4
  · rcases m with ⟨u', e⟩ | m | ⟨j, c', e1, e2⟩
    · have e' : upd W.F a o b = some u' := e
      by_cases e : b = a
      · subst e; exact .inr (.inr ⟨i, c, hi, ha⟩)
      · rw [upd_ne e] at e'; exact .inl ⟨u', e'⟩
    · exact .inr (.inl m)
    · exact .inr (.inr ⟨j, c', (inv j c' e1).2, e2⟩)
theorem Rel.slotLst (R : Rel K W S s) {i : Nat} {ds : List D} (hi : S.r[i]? = some (Slot.own (.lst ds))) : ∃ (a : Addr) (W' : Wd), s[i]? = some (some (.ref a)) ∧ W'.H = W.H ∧ Rel K W' { S with r := S.r.set i (Slot.val (.lst ds)) } s ∧
    Fr W S.r s W' (S.r.set i (Slot.val (.lst ds))) s ∧ RV K W'.F W'.io (.ref a) (.lst ds) := by
  obtain ⟨a, e, n1, n2, vs, h1, h2⟩ := R.owns i _ hi
  have hd : RV K (W.fz a (.lst vs)).F W.io (.ref a) (.lst ds) := .lst upd_same (h2.mono (upd_keep n1) (List.prefix_refl _))
  obtain ⟨R1, f1⟩ := R.slotFreeze hi e h1 hd
  exact ⟨a, W.fz a (.lst vs), e, rfl, R1, f1, hd⟩
theorem Rel.slotDct (R : Rel K W S s) {i : Nat} {ds : List (Key × D)} (hi : S.r[i]? = some (Slot.own (.dct ds))) : ∃ (a : Addr) (W' : Wd), s[i]? = some (some (.ref a)) ∧ W'.H = W.H ∧ Rel K W' { S with r := S.r.set i (Slot.val (.dct ds)) } s ∧
    Fr W S.r s W' (S.r.set i (Slot.val (.dct ds))) s ∧ RV K W'.F W'.io (.ref a) (.dct ds) := by
  obtain ⟨a, e, n1, n2, vs, h1, h2⟩ := R.owns i _ hi
  have hd : RV K (W.fz a (.dK vs)).F W.io (.ref a) (.dct ds) := .dct upd_same (h2.mono (upd_keep n1) (List.prefix_refl _))
  obtain ⟨R1, f1⟩ := R.slotFreeze hi e h1 hd
  exact ⟨a, W.fz a (.dK vs), e, rfl, R1, f1, hd⟩
/-- an own object is changed -/
theorem Rel.wrOwn (R : Rel K W S s) {i : Nat} {c c' : Cell} (hi : S.r[i]? = some (Slot.own c)) {a : Addr} (ha : s[i]? = some (some (.ref a))) {o : HO} (hc : CR K (W.wr a o) a c') :
    Rel K (W.wr a o) { S with r := S.r.set i (Slot.own c') } s ∧ Fr W S.r s (W.wr a o) (S.r.set i (Slot.own c')) s := by
  obtain ⟨a', e', n1, n2, q⟩ := R.owns i c hi
  rw [ha] at e'; cases e'
  have hil := (List.getElem?_eq_some_iff.mp hi).1
  have hF : ∀ b u, W.F b = some u → (W.wr a o).F b = some u := fun _ _ h => h
  have hio : W.io <+: (W.wr a o).io := List.prefix_refl _
  have hH : ∀ b, b ≠ a → ∀ u, W.H b = some u → (W.wr a o).H b = some u := fun b nb u h => by
    show upd W.H a o b = some u
    rw [upd_ne nb]; exact h
  have inv : ∀ j c1, (S.r.set i (Slot.own c'))[j]? = some (Slot.own c1) → (j = i ∧ c1 = c') ∨ (i ≠ j ∧ S.r[j]? = some (Slot.own c1)) := fun j c1 e => by
    by_cases e1 : i = j
    · subst e1
      rw [List.getElem?_set_self hil] at e; cases e; exact .inl ⟨rfl, rfl⟩
    · rw [List.getElem?_set_ne e1] at e; exact .inr ⟨e1, e⟩
  have old : ∀ j c1, (S.r.set i (Slot.own c'))[j]? = some (Slot.own c1) → ∃ c2, S.r[j]? = some (Slot.own c2) := fun j c1 e => by
    rcases inv j c1 e with ⟨rfl, _⟩ | ⟨_, e⟩
    · exact ⟨c, hi⟩
    · exact ⟨c1, e⟩
  refine ⟨⟨fun b u h => hH b (ne_of_none h n1) u (R.sub b u h), R.nd, R.nf, R.len, fun k c1 b e1 e2 => (R.cells k c1 b e1 e2).mono hF hio (hH b fun z => n2 (by rw [← z]; exact List.mem_of_getElem? e2)), by simp [R.sl], fun j e hj => ?_, fun j c1 hj => ?_, fun j k c1 c2 b e1 e2 e3 e4 => ?_⟩, ⟨hF, hio, fun b u hb nm => ?_, fun _ h => upd_none h⟩⟩
  · by_cases e1 : i = j
    · subst e1
      rw [List.getElem?_set_self hil] at hj; cases hj
    · rw [List.getElem?_set_ne e1] at hj
      exact R.slots j e hj
  · rcases inv j c1 hj with ⟨rfl, rfl⟩ | ⟨ne, e⟩
    · exact ⟨a, ha, n1, n2, hc⟩
    · obtain ⟨b, e2, m1, m2, q⟩ := R.owns j c1 e
      exact ⟨b, e2, m1, m2, q.mono hF hio (hH b fun z => by subst z; exact ne (R.odis i j _ _ b hi e ha e2))⟩
  · obtain ⟨d1, q1⟩ := old j c1 e1
    obtain ⟨d2, q2⟩ := old k c2 e2
    exact R.odis j k d1 d2 b q1 q2 e3 e4
  · refine ⟨hH b (fun z => nm (.inr (.inr ⟨i, c, hi, by rw [z]; exact ha⟩))) u hb, fun m => nm ?_⟩
    rcases m with m | m | ⟨j, c1, e1, e2⟩
    · exact .inl m
    · exact .inr (.inl m)
    · obtain ⟨d1, q1⟩ := old j c1 e1
      exact .inr (.inr ⟨j, d1, q1, e2⟩)
/-- a cell is changed -/
theorem Rel.wrCell (R : Rel K W S s) {k : Nat} {c' : Cell} {a : Addr} (ha : W.io[k]? = some a) {o : HO} (hc : CR K (W.wr a o) a c') :
    Rel K (W.wr a o) { S with m := S.m.set k c' } s ∧ Fr W S.r s (W.wr a o) S.r s := by
  have hmem : a ∈ W.io := List.mem_of_getElem? ha
  have n1 := R.nf a hmem
  have hF : ∀ b u, W.F b = some u → (W.wr a o).F b = some u := fun _ _ h => h
  have hio : W.io <+: (W.wr a o).io := List.prefix_refl _
  have hH : ∀ b, b ≠ a → ∀ u, W.H b = some u → (W.wr a o).H b = some u := fun b nb u h => by
    show upd W.H a o b = some u
    rw [upd_ne nb]; exact h
  refine ⟨⟨fun b u h => hH b (ne_of_none h n1) u (R.sub b u h), R.nd, R.nf, by simp [Wd.wr, R.len], fun j c1 b e1 e2 => ?_, R.sl, fun j e hj => R.slots j e hj, fun j c1 hj => ?_, R.odis⟩, ⟨hF, hio, fun b u hb nm => ⟨hH b (fun z => nm (.inr (.inl (by rw [z]; exact hmem)))) u hb, nm⟩, fun _ h => upd_none h⟩⟩
  · have e2' : W.io[j]? = some b := e2
    by_cases hj : k = j
    · subst hj
      rw [ha] at e2'; cases e2'
      have hk := (List.getElem?_eq_some_iff.mp ha).1
      rw [R.len] at hk
      rw [List.getElem?_set_self hk] at e1; cases e1
      exact hc
    · rw [List.getElem?_set_ne hj] at e1
      refine (R.cells j c1 b e1 e2').mono hF hio (hH b fun z => ?_)
      subst z
      obtain ⟨h1, q1⟩ := List.getElem?_eq_some_iff.mp e2'
      obtain ⟨h2, q2⟩ := List.getElem?_eq_some_iff.mp ha
      exact hj ((List.getElem_inj R.nd).mp (q2.trans q1.symm))
  · obtain ⟨b, e2, m1, m2, q⟩ := R.owns j c1 hj
    exact ⟨b, e2, m1, m2, q.mono hF hio (hH b fun z => m2 (by rw [z]; exact hmem))⟩
end
end M

/-! M1: judgements (an expression of the text and its function over states), names, constants, operators, comparisons, tests. -/
namespace M
open PySem L2

abbrev EF := Ms → Option (D × Ms)
abbrev BF := Ms → Option (Bool × Ms)
abbrev AF := Ms → Option (List D × Ms)
abbrev SF := Ms → Option (Fl × Ms)
abbrev GF := D → Ms → Option Ms
abbrev CF := Ms → Option (Cell × Ms)
abbrev OF := Ms → Option (Option Int × Ms)

def TEok (K : PySem.W.Frag) (t : TE) (f : EF) : Prop := ∀ S d S', f S = some (d, S') → ∀ W s (Q : VK), Rel K W S s → (∀ v W', Rel K W' S' s → Fr W S.r s W' S'.r s → RV K W'.F W'.io v d → Q v W'.H) → t s W.H Q
def TTok (K : PySem.W.Frag) (t : TT) (f : BF) : Prop := ∀ S d S', f S = some (d, S') → ∀ W s (Q : Bool → Hp → Prop), Rel K W S s → (∀ W', Rel K W' S' s → Fr W S.r s W' S'.r s → Q d W'.H) → t s W.H Q
def TAok (K : PySem.W.Frag) (t : TA) (f : AF) : Prop := ∀ S d S', f S = some (d, S') → ∀ W s (Q : List V → Hp → Prop), Rel K W S s → (∀ v W', Rel K W' S' s → Fr W S.r s W' S'.r s → RVs K W'.F W'.io v d → Q v W'.H) → t s W.H Q
def TOok (K : PySem.W.Frag) (t : TO) (f : OF) : Prop := ∀ S d S', f S = some (d, S') → ∀ W s (Q : Option Int → Hp → Prop), Rel K W S s → (∀ W', Rel K W' S' s → Fr W S.r s W' S'.r s → Q d W'.H) → t s W.H Q
/-- an expression that makes a new object -/
def TFok (K : PySem.W.Frag) (t : TE) (f : CF) : Prop := ∀ S c S', f S = some (c, S') → ∀ W s (Q : VK), Rel K W S s → (∀ a W', Rel K W' S' s → Fr W S.r s W' S'.r s → W.H a = none → New K W' S' s a c → Q (.ref a) W'.H) → t s W.H Q

def ME (X : Cx) (e : Expr) (f : EF) : Prop := ∃ t, PE X e t ∧ TEok X.K t f
def MT (X : Cx) (e : Expr) (f : BF) : Prop := ∃ t, PT X e t ∧ TTok X.K t f
def MW (X : Cx) (e : Expr) (f : BF) : Prop := ∃ t, PW X e t ∧ TTok X.K t f
def MA (X : Cx) (es : List Expr) (f : AF) : Prop := ∃ t, PA X es t ∧ TAok X.K t f
def MO (X : Cx) (e : Option Expr) (f : OF) : Prop := ∃ t, PO X e t ∧ TOok X.K t f
def MF (X : Cx) (e : Expr) (f : CF) : Prop := ∃ t, PE X e t ∧ TFok X.K t f

/-! ### what is seen without being taken -/
def vw (S : Ms) : D → D
  | .ref k => match S.m[k]? with
    | some (.lst ds) => .lst ds
    | some (.dct kds) => .dct kds
    | _ => .ref k
  | d => d
def RH (K : PySem.W.Frag) (W : Wd) (v : V) : D → Prop
  | .lst ds => ∃ a vs, v = .ref a ∧ W.H a = some (.lst vs) ∧ RVs K W.F W.io vs ds
  | .dct kds => ∃ a kvs, v = .ref a ∧ W.H a = some (.dK kvs) ∧ RVk K W.F W.io kvs kds
  | d => RV K W.F W.io v d
def sees (i : Nat) (S : Ms) : Option D := match S.r[i]? with
  | some (.val d) => some (vw S d)
  | some (.own (.lst ds)) => some (.lst ds)
  | some (.own (.dct kds)) => some (.dct kds)
  | _ => none
def held (i : Nat) (S : Ms) : Bool := match S.r[i]? with
  | some (.val _) => true
  | some (.own _) => true
  | _ => false

section
variable {K : PySem.W.Frag} {W : Wd} {S : Ms} {s : L2.St}
theorem Rel.rh (R : Rel K W S s) {v : V} {d : D} (h : RV K W.F W.io v d) : RH K W v d := by
  cases d with
  | lst ds => obtain ⟨a, vs, e, h1, h2⟩ := h.lst_inv; exact ⟨a, vs, e, R.sub _ _ h1, h2⟩
  | dct ds => obtain ⟨a, vs, e, h1, h2⟩ := h.dct_inv; exact ⟨a, vs, e, R.sub _ _ h1, h2⟩
  | _ => exact h
theorem Rel.vw (R : Rel K W S s) {v : V} {d : D} (h : RV K W.F W.io v d) : RH K W v (vw S d) := by
  cases d with
  | ref k =>
    obtain ⟨a, rfl, e⟩ := h.ref_inv
    show RH K W _ (match S.m[k]? with | some (.lst ds) => D.lst ds | some (.dct kds) => D.dct kds | _ => D.ref k)
    cases em : S.m[k]? with
    | none => exact h
    | some c =>
      have hc := R.cells k c a em e
      cases c with
      | lst ds => obtain ⟨vs, h1, h2⟩ := hc; exact ⟨a, vs, rfl, h1, h2⟩
      | dct ds => obtain ⟨vs, h1, h2⟩ := hc; exact ⟨a, vs, rfl, h1, h2⟩
      | obj C fs => exact h
      | dT ds => exact h
  | _ => exact R.rh h
theorem Rel.sees (R : Rel K W S s) {i : Nat} {d : D} (h : sees i S = some d) : ∃ v, s[i]? = some (some v) ∧ RH K W v d := by
  unfold M.sees at h
  cases e : S.r[i]? with
  | none => rw [e] at h; cases h
  | some x =>
    rw [e] at h
    cases x with
    | emp => cases h
    | val d' =>
      cases h
      obtain ⟨v, e1, q⟩ := R.slots i d' e
      exact ⟨v, e1, R.vw q⟩
    | own c =>
      obtain ⟨a, e1, _, _, q⟩ := R.owns i c e
      cases c with
      | lst ds => cases h; obtain ⟨vs, h1, h2⟩ := q; exact ⟨_, e1, a, vs, rfl, h1, h2⟩
      | dct ds => cases h; obtain ⟨vs, h1, h2⟩ := q; exact ⟨_, e1, a, vs, rfl, h1, h2⟩
      | obj C fs => cases h
      | dT ds => cases h
theorem Rel.held (R : Rel K W S s) {i : Nat} (h : held i S = true) : ∃ v, s[i]? = some (some v) := by
  unfold M.held at h
  cases e : S.r[i]? with
  | none => rw [e] at h; cases h
  | some x =>
    rw [e] at h
    cases x with
    | emp => cases h
    | val d' => obtain ⟨v, e1, q⟩ := R.slots i d' e; exact ⟨v, e1⟩
    | own c => obtain ⟨a, e1, _⟩ := R.owns i c e; exact ⟨_, e1⟩
end

/-! ### names and constants -/
def eVar (i : Nat) : EF := fun S => match S.r[i]? with
  | some (.val d) => some (d, S)
  | some (.own (.lst ds)) => some (.lst ds, { S with r := S.r.set i (.val (.lst ds)) })
  | some (.own (.dct ds)) => some (.dct ds, { S with r := S.r.set i (.val (.dct ds)) })
  | _ => none
def eC (d : D) : EF := fun S => some (d, S)
/-- seen only -/
def eSee (i : Nat) : EF := fun S => (sees i S).bind fun d => some (d, S)

section
variable {X : Cx} {pos : Pos}
theorem te_var {K : PySem.W.Frag} {i : Nat} : TEok K (tVar i) (eVar i) := by
  intro S d S' h W s Q R k
  unfold eVar at h
  cases e : S.r[i]? with
  | none => rw [e] at h; cases h
  | some x =>
    rw [e] at h
    cases x with
    | emp => cases h
    | val d' =>
      cases h
      obtain ⟨v, e1, q⟩ := R.slots i d e
      exact ⟨v, e1, k v W R .refl q⟩
    | own c =>
      cases c with
      | lst ds =>
        cases h
        obtain ⟨a, W', e1, e2, R', f, q⟩ := R.slotLst e
        refine ⟨_, e1, ?_⟩
        rw [← e2]
        exact k _ W' R' f q
      | dct ds =>
        cases h
        obtain ⟨a, W', e1, e2, R', f, q⟩ := R.slotDct e
        refine ⟨_, e1, ?_⟩
        rw [← e2]
        exact k _ W' R' f q
      | obj C fs => cases h
      | dT ds => cases h
theorem me_var (i : Nat) {x : Str} (hN : X.N[i]? = some x := by rfl) (hv : Vis X.env.scope x := by first | exact Or.inl rfl | exact Or.inr (Or.inl rfl) | exact Or.inr (Or.inr rfl)) (hd : (x == ("__debug__" : Str)) = false := by decide)
    (hcd : (x == ("__classdict__" : Str)) = false := by decide) : ME X (.Name x pos) (eVar i) := ⟨_, pe_var hN hv hd hcd, te_var⟩
theorem te_c {K : PySem.W.Frag} {v : V} {d : D} (h : ∀ F io, RV K F io v d) : TEok K (tC v) (eC d) := by
  intro S d' S' e W s Q R k
  cases e
  exact k v W R .refl (h _ _)
theorem me_int {i : Int} {j} : ME X (.Constant (.int i) j pos) (eC (.int i)) := ⟨_, pe_int, te_c fun _ _ => .int i⟩
theorem me_bl {b : Bool} {j} : ME X (.Constant (.bool b) j pos) (eC (.bl b)) := ⟨_, pe_bl, te_c fun _ _ => .bl b⟩
theorem me_non {j} : ME X (.Constant .none j pos) (eC .non) := ⟨_, pe_non, te_c fun _ _ => .non⟩
theorem me_str {x : Str} {j} : ME X (.Constant (.str x) j pos) (eC (.str x)) := ⟨_, pe_str, te_c fun _ _ => .str x⟩
/-- a module's constant -/
theorem me_glob {x : Str} {v : V} {u : Value} {d : D} (hg : Gl X x) (hm : X.mg x = some u) (r : RelV v u) (hd : ∀ F io, RV X.K F io v d) (hdb : (x == ("__debug__" : Str)) = false := by decide) : ME X (.Name x pos) (eC d) :=
  ⟨_, pe_glob hg hm r hdb, te_c hd⟩
end

/-! ### two-place operations -/
/-- f on values does g on data; nothing is frozen, the operands may be only seen -/
def OpM (X : Cx) (f : Value → Value → Sem Value) (g : D → D → Option D) : Prop := ∃ r : R2, OpR X f r ∧ ∀ x y d e z, g d e = some z → ∀ W S s (Q : VK), Rel X.K W S s → RH X.K W x d → RH X.K W y e →
  (∀ v W', Rel X.K W' S s → Fr W S.r s W' S.r s → RV X.K W'.F W'.io v z → Q v W'.H) → r x y W.H Q
def eOp (g : D → D → Option D) (a b : EF) : EF := fun S => (a S).bind fun p => (b p.2).bind fun q => (g (vw q.2 p.1) (vw q.2 q.1)).bind fun z => some (z, q.2)
/-- the left one a name that is only seen; the right one; both -/
def eOpL (g : D → D → Option D) (i : Nat) (b : EF) : EF := fun S => if held i S then (b S).bind fun q => (sees i q.2).bind fun d => (g d (vw q.2 q.1)).bind fun z => some (z, q.2) else none
def eOpR (g : D → D → Option D) (a : EF) (j : Nat) : EF := fun S => (a S).bind fun p => (sees j p.2).bind fun e => (g (vw p.2 p.1) e).bind fun z => some (z, p.2)
section
variable {X : Cx} {pos : Pos} {a b : Expr} {fa fb : EF} {g g' : D → D → Option D} {f : Value → Value → Sem Value}
theorem bind_some {α β : Type} {o : Option α} {k : α → Option β} {z : β} (h : o.bind k = some z) : ∃ x, o = some x ∧ k x = some z := by
  cases o with
  | none => cases h
  | some x => exact ⟨x, rfl, h⟩
theorem OpM.or (h : OpM X f g) (h' : OpM X f g') : OpM X f (fun d e => (g d e).or (g' d e)) := by
  obtain ⟨r, h1, h2⟩ := h
  obtain ⟨r', h1', h2'⟩ := h'
  refine ⟨_, h1.or h1', fun x y d e z hz W S s Q R rx ry k => ?_⟩
  have hz : (g d e).or (g' d e) = some z := hz
  cases q : g d e with
  | some z' =>
    rw [q] at hz
    cases hz
    exact .inl (h2 x y d e _ q W S s Q R rx ry k)
  | none =>
    rw [q] at hz
    exact .inr (h2' x y d e z hz W S s Q R rx ry k)
theorem te_op {K : PySem.W.Frag} {r : R2} {ta tb : TE} (h2 : ∀ x y d e z, g d e = some z → ∀ W S s (Q : VK), Rel K W S s → RH K W x d → RH K W y e → (∀ v W', Rel K W' S s → Fr W S.r s W' S.r s → RV K W'.F W'.io v z → Q v W'.H) → r x y W.H Q)
    (ha : TEok K ta fa) (hb : TEok K tb fb) : TEok K (tOp r ta tb) (eOp g fa fb) := by
  intro S d S' h W s Q R k
  obtain ⟨⟨d1, S1⟩, e1, h⟩ := bind_some h
  obtain ⟨⟨d2, S2⟩, e2, h⟩ := bind_some h
  obtain ⟨z, e3, h⟩ := bind_some h
  cases h
  refine ha S d1 S1 e1 W s _ R fun x W1 R1 f1 q1 => ?_
  refine hb S1 d2 S2 e2 W1 s _ R1 fun y W2 R2 f2 q2 => ?_
  exact h2 x y _ _ d e3 W2 S2 s Q R2 (R2.vw (q1.up f2)) (R2.vw q2) fun v W3 R3 f3 q3 => k v W3 R3 ((f1.trans f2).trans f3) q3
theorem te_opL {K : PySem.W.Frag} {r : R2} {tb : TE} {i : Nat} (h2 : ∀ x y d e z, g d e = some z → ∀ W S s (Q : VK), Rel K W S s → RH K W x d → RH K W y e → (∀ v W', Rel K W' S s → Fr W S.r s W' S.r s → RV K W'.F W'.io v z → Q v W'.H) → r x y W.H Q)
    (hb : TEok K tb fb) : TEok K (tOp r (tVar i) tb) (eOpL g i fb) := by
  intro S d S' h W s Q R k
  unfold eOpL at h
  split at h
  · rename_i hh
    obtain ⟨⟨d2, S2⟩, e2, h⟩ := bind_some h
    obtain ⟨d1, e1, h⟩ := bind_some h
    obtain ⟨z, e3, h⟩ := bind_some h
    cases h
    obtain ⟨x, ex⟩ := R.held hh
    refine ⟨x, ex, ?_⟩
    refine hb S d2 S2 e2 W s _ R fun y W2 R2 f2 q2 => ?_
    obtain ⟨x', ex', rx⟩ := R2.sees e1
    rw [ex] at ex'; cases ex'
    exact h2 x y _ _ d e3 W2 S2 s Q R2 rx (R2.vw q2) fun v W3 R3 f3 q3 => k v W3 R3 (f2.trans f3) q3
  · cases h
theorem te_opR {K : PySem.W.Frag} {r : R2} {ta : TE} {j : Nat} (h2 : ∀ x y d e z, g d e = some z → ∀ W S s (Q : VK), Rel K W S s → RH K W x d → RH K W y e → (∀ v W', Rel K W' S s → Fr W S.r s W' S.r s → RV K W'.F W'.io v z → Q v W'.H) → r x y W.H Q)
    (ha : TEok K ta fa) : TEok K (tOp r ta (tVar j)) (eOpR g fa j) := by
  intro S d S' h W s Q R k
  obtain ⟨⟨d1, S1⟩, e1, h⟩ := bind_some h
  obtain ⟨d2, e2, h⟩ := bind_some h
  obtain ⟨z, e3, h⟩ := bind_some h
  cases h
  refine ha S d1 S1 e1 W s _ R fun x W1 R1 f1 q1 => ?_
  obtain ⟨y, ey, ry⟩ := R1.sees e2
  exact ⟨y, ey, h2 x y _ _ d e3 W1 S1 s Q R1 (R1.vw q1) ry fun v W3 R3 f3 q3 => k v W3 R3 (f1.trans f3) q3⟩

theorem me_op {op : Operator} (ho : OpM X (binaryOp op) g) (ha : ME X a fa) (hb : ME X b fb) : ME X (.BinOp a op b pos) (eOp g fa fb) := by
  obtain ⟨r, h1, h2⟩ := ho
  obtain ⟨ta, p1, q1⟩ := ha
  obtain ⟨tb, p2, q2⟩ := hb
  exact ⟨_, pe_op h1 p1 p2, te_op h2 q1 q2⟩
theorem me_cmp {op : CmpOp} (ho : OpM X (compareOp op) g) (ha : ME X a fa) (hb : ME X b fb) (hm : behindInMarks op b = false := by first | exact nomark _ | rfl) : ME X (.Compare a [op] [b] pos) (eOp g fa fb) := by
  obtain ⟨r, h1, h2⟩ := ho
  obtain ⟨ta, p1, q1⟩ := ha
  obtain ⟨tb, p2, q2⟩ := hb
  exact ⟨_, pe_cmpR h1 p1 p2 hm, te_op h2 q1 q2⟩
theorem me_cmpR {op : CmpOp} {x : Str} {xp : Pos} (j : Nat) (ho : OpM X (compareOp op) g) (ha : ME X a fa) (hN : X.N[j]? = some x := by rfl) (hv : Vis X.env.scope x := by first | exact Or.inl rfl | exact Or.inr (Or.inl rfl) | exact Or.inr (Or.inr rfl))
    (hm : behindInMarks op (.Name x xp) = false := by first | exact nomark _ | rfl) (hd : (x == ("__debug__" : Str)) = false := by decide) (hcd : (x == ("__classdict__" : Str)) = false := by decide) :
    ME X (.Compare a [op] [.Name x xp] pos) (eOpR g fa j) := by
  obtain ⟨r, h1, h2⟩ := ho
  obtain ⟨ta, p1, q1⟩ := ha
  exact ⟨_, pe_cmpR h1 p1 (pe_var hN hv hd hcd) hm, te_opR h2 q1⟩
/-- subscripts -/
def IxM (X : Cx) (g : D → D → Option D) : Prop := ∃ r : R2, IxR X r ∧ ∀ x y d e z, g d e = some z → ∀ W S s (Q : VK), Rel X.K W S s → RH X.K W x d → RH X.K W y e →
  (∀ v W', Rel X.K W' S s → Fr W S.r s W' S.r s → RV X.K W'.F W'.io v z → Q v W'.H) → r x y W.H Q
theorem me_ix (ho : IxM X g) (ha : ME X a fa) (hb : ME X b fb) (hs : PlainIx b := by intro _ _; rfl) : ME X (.Subscript a b pos) (eOp g fa fb) := by
  obtain ⟨r, h1, h2⟩ := ho
  obtain ⟨ta, p1, q1⟩ := ha
  obtain ⟨tb, p2, q2⟩ := hb
  exact ⟨_, pe_ix h1 p1 p2 hs, te_op h2 q1 q2⟩
theorem me_ixV {x : Str} {xp : Pos} (i : Nat) (ho : IxM X g) (hb : ME X b fb) (hs : PlainIx b := by intro _ _; rfl) (hN : X.N[i]? = some x := by rfl) (hv : Vis X.env.scope x := by first | exact Or.inl rfl | exact Or.inr (Or.inl rfl) | exact Or.inr (Or.inr rfl))
    (hd : (x == ("__debug__" : Str)) = false := by decide) (hcd : (x == ("__classdict__" : Str)) = false := by decide) : ME X (.Subscript (.Name x xp) b pos) (eOpL g i fb) := by
  obtain ⟨r, h1, h2⟩ := ho
  obtain ⟨tb, p2, q2⟩ := hb
  exact ⟨_, pe_ix h1 (pe_var hN hv hd hcd) p2 hs, te_opL h2 q2⟩
end

/-! ### the operations on data -/
def LIM : Nat := 1000000
def gAddI : D → D → Option D
  | .int i, .int j => some (.int (i + j))
  | _, _ => none
def gAddS : D → D → Option D
  | .str a, .str b => if a.length + b.length ≤ LIM then some (.str (a ++ b)) else none
  | _, _ => none
def gAddL : D → D → Option D
  | .lst a, .lst b => if a.length + b.length ≤ LIM then some (.lst (a ++ b)) else none
  | _, _ => none
def gSub : D → D → Option D
  | .int i, .int j => some (.int (i - j))
  | _, _ => none
def B64 : Int := 18446744073709551616
def gMul : D → D → Option D
  | .int i, .int j => if (-B64 < i ∧ i < B64) ∨ (-B64 < j ∧ j < B64) then some (.int (i * j)) else none
  | _, _ => none
def BDIV : Int := 10 ^ 50
def gDiv : D → D → Option D
  | .int i, .int j => if 0 < j ∧ j < BDIV then some (.int (i / j)) else none
  | _, _ => none
def gMod : D → D → Option D
  | .int i, .int j => if 0 < j then some (.int (i % j)) else none
  | _, _ => none
def gPow : D → D → Option D
  | .int i, .int j => if 0 ≤ j ∧ j ≤ 1000000 ∧ -B64 < i ∧ i < B64 then some (.int (i ^ j.toNat)) else none
  | _, _ => none
def gI (p : Int → Int → Bool) : D → D → Option D
  | .int i, .int j => some (.bl (p i j))
  | _, _ => none
def gLt := gI fun i j => decide (i < j)
def gLe := gI fun i j => decide (i ≤ j)
def gGt := gI fun i j => decide (j < i)
def gGe := gI fun i j => decide (j ≤ i)
def gIsN : D → D → Option D
  | .non, .non => some (.bl true)
  | .bl _, .non | .int _, .non | .str _, .non | .tup _, .non | .lst _, .non | .sc _, .non | .dct _, .non | .ref _, .non => some (.bl false)
  | _, _ => none
def gNotN (d e : D) : Option D := (gIsN d e).bind fun z => match z with
  | .bl b => some (.bl (!b))
  | _ => none
mutual
def toPy : D → Option PyData
  | .non => some .none
  | .bl b => some (.bool b)
  | .int i => some (.int i)
  | .str s => some (.str s)
  | .tup ds => (toPys ds).map .tuple
  | .lst ds => (toPys ds).map .list
  | .sc _ | .dct _ | .ref _ => none
def toPys : List D → Option (List PyData)
  | [] => some []
  | d :: ds => (toPy d).bind fun p => (toPys ds).bind fun q => some (p :: q)
end
def eqD (d e : D) : Option Bool := (toPy d).bind fun p => (toPy e).bind fun q => if SeqAt.shaped p = true ∧ SeqAt.shaped q = true then some (PyData.eqv p q) else none
def gEq (d e : D) : Option D := (eqD d e).bind fun b => some (.bl b)
def gNe (d e : D) : Option D := (eqD d e).bind fun b => some (.bl (!b))
def gIx : D → D → Option D
  | .tup ds, .int i => atI ds i
  | .lst ds, .int i => atI ds i
  | .sc ds, .int i => atI ds i
  | .str z, .int i => if z.length ≤ LIM then (atI z.cps.toList i).bind fun c => some (.str ⟨#[c]⟩) else none
  | _, _ => none

section
variable {X : Cx}
theorem lim_line : LIM ≤ sizeLine := by rw [sizeLine_eq]; decide
theorem rhI {K : PySem.W.Frag} {W : Wd} {x : V} {i : Int} (h : RH K W x (.int i)) : x = .int i := RV.int_inv h
theorem rhS {K : PySem.W.Frag} {W : Wd} {x : V} {i : Str} (h : RH K W x (.str i)) : x = .str i := RV.str_inv h
/-- ints in -/
theorem opM_I0 {f : Value → Value → Sem Value} {g : Int → Int → V} {gd : Int → Int → D} {G : D → D → Option D} (h : OpR X f (rI0 g)) (hG : ∀ d e z, G d e = some z → ∃ i j, d = .int i ∧ e = .int j ∧ z = gd i j)
    (hv : ∀ i j F io, RV X.K F io (g i j) (gd i j)) : OpM X f G := by
  refine ⟨_, h, fun x y d e z hz W S s Q R rx ry k => ?_⟩
  obtain ⟨i, j, rfl, rfl, rfl⟩ := hG d e z hz
  exact ⟨i, j, rhI rx, rhI ry, k _ W R .refl (hv i j _ _)⟩
theorem opM_I {f : Value → Value → Sem Value} {C : Int → Int → Prop} {g : Int → Int → V} {gd : Int → Int → D} {G : D → D → Option D} (h : OpR X f (rI C g)) (hG : ∀ d e z, G d e = some z → ∃ i j, d = .int i ∧ e = .int j ∧ z = gd i j ∧ C i j)
    (hv : ∀ i j F io, RV X.K F io (g i j) (gd i j)) : OpM X f G := by
  refine ⟨_, h, fun x y d e z hz W S s Q R rx ry k => ?_⟩
  obtain ⟨i, j, rfl, rfl, rfl, c⟩ := hG d e z hz
  exact ⟨i, j, rhI rx, rhI ry, c, k _ W R .refl (hv i j _ _)⟩
theorem oAddI : OpM X (binaryOp .Add) gAddI := opM_I0 (gd := fun i j => .int (i + j)) op_add (fun d e z h => by
  unfold gAddI at h; split at h <;> cases h; exact ⟨_, _, rfl, rfl, rfl⟩) fun i j _ _ => .int _
theorem oSub : OpM X (binaryOp .Sub) gSub := opM_I0 (gd := fun i j => .int (i - j)) op_sub (fun d e z h => by
  unfold gSub at h; split at h <;> cases h; exact ⟨_, _, rfl, rfl, rfl⟩) fun i j _ _ => .int _
theorem oMul : OpM X (binaryOp .Mult) gMul := opM_I (gd := fun i j => .int (i * j)) op_mul (fun d e z h => by
  unfold gMul at h
  split at h
  · split at h
    · rename_i c; cases h; exact ⟨_, _, rfl, rfl, rfl, c⟩
    · cases h
  · cases h) fun i j _ _ => .int _
theorem log_bdiv {j : Int} (h0 : 0 < j) (h : j < BDIV) : j.natAbs.log2 < 9000 := by
  have e : j.natAbs < 10 ^ 50 := by unfold BDIV at h; omega
  have e2 : j.natAbs < 2 ^ 200 := Nat.lt_trans e (by decide)
  have := PySem.Flt.log2_lt_of (k := 200) (by decide) e2
  omega
theorem oDiv : OpM X (binaryOp .FloorDiv) gDiv := opM_I (gd := fun i j => .int (i / j)) op_fdivW (fun d e z h => by
  unfold gDiv at h
  split at h
  · split at h
    · rename_i c; cases h; exact ⟨_, _, rfl, rfl, rfl, c.1, log_bdiv c.1 c.2⟩
    · cases h
  · cases h) fun i j _ _ => .int _
theorem oMod : OpM X (binaryOp .Mod) gMod := opM_I (gd := fun i j => .int (i % j)) op_mod (fun d e z h => by
  unfold gMod at h
  split at h
  · split at h
    · rename_i c; cases h; exact ⟨_, _, rfl, rfl, rfl, c⟩
    · cases h
  · cases h) fun i j _ _ => .int _
theorem oPow : OpM X (binaryOp .Pow) gPow := opM_I (gd := fun i j => .int (i ^ j.toNat)) op_pow (fun d e z h => by
  unfold gPow at h
  split at h
  · split at h
    · rename_i c
      cases h
      refine ⟨_, _, rfl, rfl, rfl, c.1, c.2.1, ?_⟩
      have := c.2.2
      unfold B64 at this
      omega
    · cases h
  · cases h) fun i j _ _ => .int _
theorem oLt : OpM X (compareOp .Lt) gLt := opM_I0 (gd := fun i j => .bl (decide (i < j))) op_lt (fun d e z h => by
  unfold gLt gI at h; split at h <;> cases h; exact ⟨_, _, rfl, rfl, rfl⟩) fun i j _ _ => .bl _
theorem oLe : OpM X (compareOp .LtE) gLe := opM_I0 (gd := fun i j => .bl (decide (i ≤ j))) op_le (fun d e z h => by
  unfold gLe gI at h; split at h <;> cases h; exact ⟨_, _, rfl, rfl, rfl⟩) fun i j _ _ => .bl _
theorem oGt : OpM X (compareOp .Gt) gGt := opM_I0 (gd := fun i j => .bl (decide (j < i))) op_gt (fun d e z h => by
  unfold gGt gI at h; split at h <;> cases h; exact ⟨_, _, rfl, rfl, rfl⟩) fun i j _ _ => .bl _
theorem oGe : OpM X (compareOp .GtE) gGe := opM_I0 (gd := fun i j => .bl (decide (j ≤ i))) op_ge (fun d e z h => by
  unfold gGe gI at h; split at h <;> cases h; exact ⟨_, _, rfl, rfl, rfl⟩) fun i j _ _ => .bl _
theorem oAddS : OpM X (binaryOp .Add) gAddS := by
  refine ⟨_, op_add_str, fun x y d e z hz W S s Q R rx ry k => ?_⟩
  unfold gAddS at hz
  split at hz
  · split at hz
    · rename_i a b c
      cases hz
      exact ⟨a, b, rhS rx, rhS ry, Nat.le_trans c lim_line, k _ W R .refl (.str _)⟩
    · cases hz
  · cases hz
theorem oAddL : OpM X (binaryOp .Add) gAddL := by
  refine ⟨_, op_cat, fun x y d e z hz W S s Q R rx ry k => ?_⟩
  unfold gAddL at hz
  split at hz
  · split at hz
    · rename_i a b c
      cases hz
      obtain ⟨l, xs, rfl, h1, h2⟩ := rx
      obtain ⟨m, zs, rfl, h3, h4⟩ := ry
      refine ⟨l, m, xs, zs, rfl, rfl, h1, h3, by rw [h2.length, h4.length]; exact Nat.le_trans c lim_line, fun p hp => ?_⟩
      obtain ⟨R1, f1⟩ := R.al (o := .lst (xs ++ zs)) hp
      exact k _ _ R1 f1 (.lst upd_same ((h2.append h4).up f1))
    · cases hz
  · cases hz
def gAddT : D → D → Option D
  | .tup a, .tup b => if a.length + b.length ≤ LIM then some (.tup (a ++ b)) else none
  | _, _ => none
theorem rvs_nil {K : PySem.W.Frag} {F : Hp} {io : List Addr} {vs : List V} {ds : List D} (h : RVs K F io vs ds) : vs = [] ↔ ds = [] := by cases h <;> simp
theorem oAddT : OpM X (binaryOp .Add) gAddT := by
  refine ⟨_, op_catA, fun x y d e z hz W S s Q R rx ry k => ?_⟩
  unfold gAddT at hz
  split at hz
  · split at hz
    · rename_i a b c
      cases hz
      obtain ⟨l, xs, rfl, h1, h2⟩ := RV.tup_inv rx
      obtain ⟨m, zs, rfl, h3, h4⟩ := RV.tup_inv ry
      refine ⟨l, m, xs, zs, rfl, rfl, sqT_mono R.sub h1, sqT_mono R.sub h3, by rw [h2.length, h4.length]; exact Nat.le_trans c lim_line, fun e => ?_, fun _ e => ?_, fun _ _ p hp => ?_⟩
      · have e' := (rvs_nil h2).mp e
        subst e'
        exact k _ W R .refl ry
      · have e' := (rvs_nil h4).mp e
        subst e'
        exact k _ W R .refl (by rw [List.append_nil]; exact rx)
      · obtain ⟨R1, f1⟩ := R.al (o := .tup (xs ++ zs)) hp
        exact k _ _ R1 f1 (.tup (.of upd_same) ((h2.append h4).up f1))
    · cases hz
  · cases hz
def gAdd : D → D → Option D := fun d e => (gAddI d e).or ((gAddS d e).or ((gAddL d e).or (gAddT d e)))
theorem oAdd : OpM X (binaryOp .Add) gAdd := oAddI.or (oAddS.or (oAddL.or oAddT))

theorem rh_isN {K : PySem.W.Frag} {W : Wd} {x : V} {d e z : D} (h : gIsN d e = some z) (rx : RH K W x d) (ry : ∀ {y}, RH K W y e → y = .non) : z = .bl (decide (x = .non)) := by
  cases e <;> cases d <;> first
    | (cases h; cases (RV.non_inv rx); rfl)
    | (cases h; cases rx; rfl)
    | (cases h; obtain ⟨a, vs, rfl, _⟩ := rx; rfl)
    | cases h
theorem gIsN_right {d e z : D} (h : gIsN d e = some z) : e = .non := by
  cases e <;> cases d <;> first | rfl | cases h
theorem oIsN : OpM X (compareOp .Is) gIsN := by
  refine ⟨_, op_isN, fun x y d e z hz W S s Q R rx ry k => ?_⟩
  have e1 := gIsN_right hz
  subst e1
  have e2 := rh_isN hz rx (fun h => RV.non_inv h)
  subst e2
  exact ⟨RV.non_inv ry, k _ W R .refl (.bl _)⟩
theorem oNotN : OpM X (compareOp .IsNot) gNotN := by
  refine ⟨_, op_notN, fun x y d e z hz W S s Q R rx ry k => ?_⟩
  obtain ⟨z1, h1, h2⟩ := bind_some hz
  have e1 := gIsN_right h1
  subst e1
  have e2 := rh_isN h1 rx (fun h => RV.non_inv h)
  subst e2
  cases h2
  exact ⟨RV.non_inv ry, k _ W R .refl (.bl _)⟩
theorem RV.dp {K : PySem.W.Frag} {F H : Hp} {io : List Addr} (hF : ∀ a o, F a = some o → H a = some o) {v : V} {d : D} (h : RV K F io v d) : ∀ p, toPy d = some p → Dp K H v p := by
  refine RV.rec (K := K) (F := F) (io := io) (motive_1 := fun v d _ => ∀ p, toPy d = some p → Dp K H v p) (motive_2 := fun vs ds _ => ∀ ps, toPys ds = some ps → DpAll K H vs ps) (motive_3 := fun _ _ _ => True) ?_ ?_ ?_ ?_ ?_ ?_ ?_ ?_ ?_ ?_ ?_ ?_ ?_ h
  · intro p e; cases e; exact .non
  · intro b p e; cases e; exact .bl b
  · intro i p e; cases e; exact .int i
  · intro i p e; cases e; exact .str i
  · intro a vs ds h1 _ ih p e
    simp only [toPy, Option.map_eq_some_iff] at e
    obtain ⟨ps, e1, rfl⟩ := e
    exact .tup (sqT_mono hF h1) (ih ps e1)
  · intro a vs ds h1 _ ih p e
    simp only [toPy, Option.map_eq_some_iff] at e
    obtain ⟨ps, e1, rfl⟩ := e
    exact .lst (.of (hF _ _ h1)) (ih ps e1)
  · intro a vs ds _ _ _ p e; cases e
  · intro a vs ds _ _ _ p e; cases e
  · intro a k _ p e; cases e
  · intro ps e; cases e; exact .nil
  · intro v vs d ds _ _ i1 i2 ps e
    simp only [toPys] at e
    obtain ⟨p, e1, e⟩ := bind_some e
    obtain ⟨q, e2, e⟩ := bind_some e
    cases e
    exact .cons (i1 p e1) (i2 q e2)
  · trivial
  · intros; trivial
theorem RVs.dp {K : PySem.W.Frag} {F H : Hp} {io : List Addr} (hF : ∀ a o, F a = some o → H a = some o) : ∀ {vs : List V} {ds : List D}, RVs K F io vs ds → ∀ ps, toPys ds = some ps → DpAll K H vs ps
  | _, _, .nil, ps, e => by cases e; exact .nil
  | _, _, .cons h t, ps, e => by
    simp only [toPys] at e
    obtain ⟨p, e1, e⟩ := bind_some e
    obtain ⟨q, e2, e⟩ := bind_some e
    cases e
    exact .cons (h.dp hF p e1) (t.dp hF q e2)
theorem rh_dp {K : PySem.W.Frag} {W : Wd} {S : Ms} {s : L2.St} (R : Rel K W S s) {v : V} {d : D} (h : RH K W v d) {p : PyData} (e : toPy d = some p) : Dp K W.H v p := by
  cases d with
  | lst ds =>
    obtain ⟨a, vs, rfl, h1, h2⟩ := h
    simp only [toPy, Option.map_eq_some_iff] at e
    obtain ⟨ps, e1, rfl⟩ := e
    exact .lst (.of h1) (h2.dp R.sub ps e1)
  | dct ds => cases e
  | _ => exact RV.dp R.sub h p e
theorem oEq (hu : X.A.units + 64 < cLine) : OpM X (compareOp .Eq) gEq := by
  refine ⟨_, op_eqD hu, fun x y d e z hz W S s Q R rx ry k => ?_⟩
  obtain ⟨b, hb, hz⟩ := bind_some hz
  cases hz
  obtain ⟨p, hp, hb⟩ := bind_some hb
  obtain ⟨q, hq, hb⟩ := bind_some hb
  split at hb
  · rename_i c
    cases hb
    exact ⟨p, q, rh_dp R rx hp, rh_dp R ry hq, c.1, c.2, k _ W R .refl (.bl _)⟩
  · cases hb
theorem oNe (hu : X.A.units + 64 < cLine) : OpM X (compareOp .NotEq) gNe := by
  refine ⟨_, op_neD hu, fun x y d e z hz W S s Q R rx ry k => ?_⟩
  obtain ⟨b, hb, hz⟩ := bind_some hz
  cases hz
  obtain ⟨p, hp, hb⟩ := bind_some hb
  obtain ⟨q, hq, hb⟩ := bind_some hb
  split at hb
  · rename_i c
    cases hb
    exact ⟨p, q, rh_dp R rx hp, rh_dp R ry hq, c.1, c.2, k _ W R .refl (.bl _)⟩
  · cases hb
theorem atI_rv {K : PySem.W.Frag} {F : Hp} {io : List Addr} {vs : List V} {ds : List D} (h : RVs K F io vs ds) {i : Int} {d : D} (e : atI ds i = some d) : ∃ v, atI vs i = some v ∧ RV K F io v d := by
  unfold atI at e ⊢
  rw [← h.length] at e
  obtain ⟨j, e1, e2⟩ := bind_some e
  obtain ⟨v, e3, q⟩ := h.get e2
  exact ⟨v, by rw [e1]; exact e3, q⟩
theorem oIx : IxM X gIx := by
  refine ⟨_, ix_seq, fun x y d e z hz W S s Q R rx ry k => ?_⟩
  unfold gIx at hz
  split at hz
  · obtain ⟨a, vs, rfl, h1, h2⟩ := RV.tup_inv rx
    obtain ⟨v, e1, q⟩ := atI_rv h2 hz
    exact .inr (.inl ⟨a, vs, _, v, rfl, rhI ry, sqT_mono R.sub h1, e1, k _ W R .refl q⟩)
  · obtain ⟨a, vs, rfl, h1, h2⟩ := rx
    obtain ⟨v, e1, q⟩ := atI_rv h2 hz
    exact .inl ⟨a, vs, _, v, rfl, rhI ry, .of h1, e1, k _ W R .refl q⟩
  · obtain ⟨a, vs, rfl, h1, h2⟩ := RV.sc_inv rx
    obtain ⟨v, e1, q⟩ := atI_rv h2 hz
    exact .inl ⟨a, vs, _, v, rfl, rhI ry, sqL_mono R.sub h1, e1, k _ W R .refl q⟩
  · split at hz
    · rename_i z' i c
      obtain ⟨c', e1, e2⟩ := bind_some hz
      cases e2
      exact .inr (.inr ⟨z', i, c', rhS rx, rhI ry, Nat.le_trans c lim_line, e1, k _ W R .refl (.str _)⟩)
    · cases hz
  · cases hz
end
end M

/-! M2: tests, displays, slices, calls of built-ins, what a loop walks, list comprehensions. -/
namespace M
open PySem L2

/-! ### tests -/
def bOf (f : EF) : BF := fun S => (f S).bind fun p => match p.1 with
  | .bl b => some (b, p.2)
  | _ => none
def gTru : D → Option Bool
  | .non => some false
  | .bl b => some b
  | .int i => some (i != 0)
  | .str y => if y.length ≤ LIM then some ((y.length : Int) != 0) else none
  | .lst ds => some (!ds.isEmpty)
  | .tup ds => some (!ds.isEmpty)
  | .sc ds => some (!ds.isEmpty)
  | .dct ds => some (!ds.isEmpty)
  | .ref _ => none
def bTru (f : EF) : BF := fun S => (f S).bind fun p => (gTru (vw p.2 p.1)).bind fun b => some (b, p.2)
def bTruV (i : Nat) : BF := fun S => (sees i S).bind fun d => (gTru d).bind fun b => some (b, S)
def bAnd (f g : BF) : BF := fun S => (f S).bind fun p => if p.1 then g p.2 else some (false, p.2)
def bOr (f g : BF) : BF := fun S => (f S).bind fun p => if p.1 then some (true, p.2) else g p.2
def bNot (f : BF) : BF := fun S => (f S).bind fun p => some (!p.1, p.2)
def eAnd (f g : EF) : EF := fun S => (f S).bind fun p => match p.1 with
  | .bl true => g p.2
  | .bl false => some (.bl false, p.2)
  | _ => none
def eOr (f g : EF) : EF := fun S => (f S).bind fun p => match p.1 with
  | .bl true => some (.bl true, p.2)
  | .bl false => g p.2
  | _ => none
def eNot (f : EF) : EF := fun S => (f S).bind fun p => match p.1 with
  | .bl b => some (.bl (!b), p.2)
  | _ => none
def eIf (t : BF) (f g : EF) : EF := fun S => (t S).bind fun p => if p.1 then f p.2 else g p.2
def gNeg : D → Option D
  | .int i => some (.int (-i))
  | _ => none
def eUn (g : D → Option D) (f : EF) : EF := fun S => (f S).bind fun p => (g p.1).bind fun z => some (z, p.2)

section
variable {X : Cx} {pos : Pos} {a b c e : Expr} {fa fb : EF} {ga gb : BF} {g : D → D → Option D} {rest : List Expr}
theorem tt_of {K : PySem.W.Frag} {t : TE} {f : EF} (h : TEok K t f) : TTok K (fun s H Q => t s H fun x H1 => ∃ k, x = .bl k ∧ Q k H1) (bOf f) := by
  intro S d S' q W s Q R k
  obtain ⟨⟨d1, S1⟩, e1, q⟩ := bind_some q
  simp only at q
  split at q
  · rename_i b
    cases q
    exact h S _ _ e1 W s _ R fun v W1 R1 f1 q1 => ⟨_, q1.bl_inv, k W1 R1 f1⟩
  · cases q
theorem mt_val (h : ME X e fa) (he : ∀ whole, isTrue e X.env whole = (do let v ← whole; standAt e.pos; holding [v] (truthy v)) := by intro _; rfl) : MT X e (bOf fa) := by
  obtain ⟨t, p, q⟩ := h
  exact ⟨_, pt_val p he, tt_of q⟩
theorem mt_cmp {op : CmpOp} (ho : OpM X (compareOp op) g) (ha : ME X a fa) (hb : ME X b fb) (hm : behindInMarks op b = false := by first | exact nomark _ | rfl) : MT X (.Compare a [op] [b] pos) (bOf (eOp g fa fb)) := by
  obtain ⟨r, h1, h2⟩ := ho
  obtain ⟨ta, p1, q1⟩ := ha
  obtain ⟨tb, p2, q2⟩ := hb
  exact ⟨_, pt_cmpR h1 p1 p2 hm, tt_of (te_op h2 q1 q2)⟩
theorem mt_cmpR {op : CmpOp} {x : Str} {xp : Pos} (j : Nat) (ho : OpM X (compareOp op) g) (ha : ME X a fa) (hN : X.N[j]? = some x := by rfl) (hv : Vis X.env.scope x := by first | exact Or.inl rfl | exact Or.inr (Or.inl rfl) | exact Or.inr (Or.inr rfl))
    (hm : behindInMarks op (.Name x xp) = false := by first | exact nomark _ | rfl) (hd : (x == ("__debug__" : Str)) = false := by decide) (hcd : (x == ("__classdict__" : Str)) = false := by decide) :
    MT X (.Compare a [op] [.Name x xp] pos) (bOf (eOpR g fa j)) := by
  obtain ⟨r, h1, h2⟩ := ho
  obtain ⟨ta, p1, q1⟩ := ha
  exact ⟨_, pt_cmpR h1 p1 (pe_var hN hv hd hcd) hm, tt_of (te_opR h2 q1)⟩
theorem tru_of {K : PySem.W.Frag} {W : Wd} {S : Ms} {s : L2.St} (R : Rel K W S s) {v : V} {d : D} (h : RH K W v d) {b : Bool} (e : gTru d = some b) : TruV K v W.H b := by
  cases d with
  | non => cases e; cases RV.non_inv h; rfl
  | bl b => cases e; cases RV.bl_inv h; rfl
  | int i => cases e; cases RV.int_inv h; rfl
  | str y =>
    have e : (if y.length ≤ LIM then some ((y.length : Int) != 0) else none) = some b := e
    split at e
    · rename_i c; cases e; cases RV.str_inv h; exact ⟨Nat.le_trans c lim_line, rfl⟩
    · cases e
  | tup ds => cases e; obtain ⟨a, vs, rfl, h1, h2⟩ := RV.tup_inv h; exact .inr (.inl ⟨vs, sqT_mono R.sub h1, by cases h2 <;> rfl⟩)
  | lst ds => cases e; obtain ⟨a, vs, rfl, h1, h2⟩ := h; exact .inl ⟨vs, .of h1, by cases h2 <;> rfl⟩
  | sc ds => cases e; obtain ⟨a, vs, rfl, h1, h2⟩ := RV.sc_inv h; exact .inl ⟨vs, sqL_mono R.sub h1, by cases h2 <;> rfl⟩
  | dct ds => cases e; obtain ⟨a, vs, rfl, h1, h2⟩ := h; exact .inr (.inr ⟨vs, h1, by cases h2 <;> rfl⟩)
  | ref k => cases e
theorem mt_tru (h : ME X e fa) (he : ∀ whole, isTrue e X.env whole = (do let v ← whole; standAt e.pos; holding [v] (truthy v)) := by intro _; rfl) : MT X e (bTru fa) := by
  obtain ⟨t, p, q⟩ := h
  refine ⟨_, pt_truth p he, fun S d S' h W s Q R k => ?_⟩
  obtain ⟨⟨d1, S1⟩, e1, h⟩ := bind_some h
  obtain ⟨b, e2, h⟩ := bind_some h
  cases h
  exact q S _ _ e1 W s _ R fun v W1 R1 f1 q1 => ⟨_, tru_of R1 (R1.vw q1) e2, k W1 R1 f1⟩
theorem mt_truV {x : Str} {xp : Pos} (i : Nat) (hN : X.N[i]? = some x := by rfl) (hv : Vis X.env.scope x := by first | exact Or.inl rfl | exact Or.inr (Or.inl rfl) | exact Or.inr (Or.inr rfl))
    (hd : (x == ("__debug__" : Str)) = false := by decide) (hcd : (x == ("__classdict__" : Str)) = false := by decide) : MT X (.Name x xp) (bTruV i) := by
  refine ⟨_, pt_truth (pe_var hN hv hd hcd) (by intro _; rfl), fun S d S' h W s Q R k => ?_⟩
  obtain ⟨d1, e1, h⟩ := bind_some h
  obtain ⟨b, e2, h⟩ := bind_some h
  cases h
  obtain ⟨v, e3, q⟩ := R.sees e1
  exact ⟨v, e3, _, tru_of R q e2, k W R .refl⟩
theorem mw_and1 (ha : MT X a ga) : MW X (.BoolOp .And [a] pos) ga := by
  obtain ⟨t, p, q⟩ := ha
  exact ⟨_, pw_and1 p, q⟩
theorem mw_or1 (ha : MT X a ga) : MW X (.BoolOp .Or [a] pos) ga := by
  obtain ⟨t, p, q⟩ := ha
  exact ⟨_, pw_or1 p, q⟩
theorem mw_and (ha : MT X a ga) (hb : MW X (.BoolOp .And (b :: rest) pos) gb) : MW X (.BoolOp .And (a :: b :: rest) pos) (bAnd ga gb) := by
  obtain ⟨t, p, q⟩ := ha
  obtain ⟨u, p', q'⟩ := hb
  refine ⟨_, pw_and p p', fun S d S' h W s Q R k => ?_⟩
  obtain ⟨⟨c, S1⟩, e1, h⟩ := bind_some h
  refine q S _ _ e1 W s _ R fun W1 R1 f1 => ?_
  cases c with
  | true => exact q' S1 _ _ h W1 s _ R1 fun W2 R2 f2 => k W2 R2 (f1.trans f2)
  | false => cases h; exact k W1 R1 f1
theorem mw_or (ha : MT X a ga) (hb : MW X (.BoolOp .Or (b :: rest) pos) gb) : MW X (.BoolOp .Or (a :: b :: rest) pos) (bOr ga gb) := by
  obtain ⟨t, p, q⟩ := ha
  obtain ⟨u, p', q'⟩ := hb
  refine ⟨_, pw_or p p', fun S d S' h W s Q R k => ?_⟩
  obtain ⟨⟨c, S1⟩, e1, h⟩ := bind_some h
  refine q S _ _ e1 W s _ R fun W1 R1 f1 => ?_
  cases c with
  | false => exact q' S1 _ _ h W1 s _ R1 fun W2 R2 f2 => k W2 R2 (f1.trans f2)
  | true => cases h; exact k W1 R1 f1
theorem mt_w (h : MW X e ga) : MT X e ga := by
  obtain ⟨t, p, q⟩ := h
  exact ⟨_, p.pt, q⟩
theorem mt_not (h : MT X e ga) : MT X (.UnaryOp .Not e pos) (bNot ga) := by
  obtain ⟨t, p, q⟩ := h
  refine ⟨_, pt_not p, fun S d S' h W s Q R k => ?_⟩
  obtain ⟨⟨c, S1⟩, e1, h⟩ := bind_some h
  cases h
  exact q S _ _ e1 W s _ R fun W1 R1 f1 => k W1 R1 f1
theorem me_one {op} (h : ME X a fa) : ME X (.BoolOp op [a] pos) fa := by
  obtain ⟨t, p, q⟩ := h
  exact ⟨_, pe_one p, q⟩
theorem me_and (ha : ME X a fa) (hb : ME X (.BoolOp .And (b :: rest) pos) fb) : ME X (.BoolOp .And (a :: b :: rest) pos) (eAnd fa fb) := by
  obtain ⟨t, p, q⟩ := ha
  obtain ⟨u, p', q'⟩ := hb
  refine ⟨_, pe_and p p', fun S d S' h W s Q R k => ?_⟩
  obtain ⟨⟨c, S1⟩, e1, h⟩ := bind_some h
  refine q S _ _ e1 W s _ R fun v W1 R1 f1 r1 => ?_
  simp only at h
  split at h
  · exact ⟨true, r1.bl_inv, q' S1 _ _ h W1 s _ R1 fun v W2 R2 f2 r2 => k v W2 R2 (f1.trans f2) r2⟩
  · cases h; exact ⟨false, r1.bl_inv, k _ W1 R1 f1 (.bl _)⟩
  · cases h
theorem me_or (ha : ME X a fa) (hb : ME X (.BoolOp .Or (b :: rest) pos) fb) : ME X (.BoolOp .Or (a :: b :: rest) pos) (eOr fa fb) := by
  obtain ⟨t, p, q⟩ := ha
  obtain ⟨u, p', q'⟩ := hb
  refine ⟨_, pe_or p p', fun S d S' h W s Q R k => ?_⟩
  obtain ⟨⟨c, S1⟩, e1, h⟩ := bind_some h
  refine q S _ _ e1 W s _ R fun v W1 R1 f1 r1 => ?_
  simp only at h
  split at h
  · cases h; exact ⟨true, r1.bl_inv, k _ W1 R1 f1 (.bl _)⟩
  · exact ⟨false, r1.bl_inv, q' S1 _ _ h W1 s _ R1 fun v W2 R2 f2 r2 => k v W2 R2 (f1.trans f2) r2⟩
  · cases h
theorem me_not (ha : ME X a fa) : ME X (.UnaryOp .Not a pos) (eNot fa) := by
  obtain ⟨t, p, q⟩ := ha
  refine ⟨_, pe_not p, fun S d S' h W s Q R k => ?_⟩
  obtain ⟨⟨c, S1⟩, e1, h⟩ := bind_some h
  refine q S _ _ e1 W s _ R fun v W1 R1 f1 r1 => ?_
  simp only at h
  split at h
  · cases h; exact ⟨_, r1.bl_inv, k _ W1 R1 f1 (.bl _)⟩
  · cases h
theorem me_if (hc : MT X c ga) (ha : ME X a fa) (hb : ME X b fb) : ME X (.IfExp c a b pos) (eIf ga fa fb) := by
  obtain ⟨t, p, q⟩ := hc
  obtain ⟨ta, p1, q1⟩ := ha
  obtain ⟨tb, p2, q2⟩ := hb
  refine ⟨_, pe_ifExp p p1 p2, fun S d S' h W s Q R k => ?_⟩
  obtain ⟨⟨c, S1⟩, e1, h⟩ := bind_some h
  refine q S _ _ e1 W s _ R fun W1 R1 f1 => ?_
  cases c with
  | true => exact q1 S1 _ _ h W1 s _ R1 fun v W2 R2 f2 r2 => k v W2 R2 (f1.trans f2) r2
  | false => exact q2 S1 _ _ h W1 s _ R1 fun v W2 R2 f2 r2 => k v W2 R2 (f1.trans f2) r2
theorem me_neg (ha : ME X a fa) : ME X (.UnaryOp .USub a pos) (eUn gNeg fa) := by
  obtain ⟨t, p, q⟩ := ha
  refine ⟨_, pe_un un_neg p, fun S d S' h W s Q R k => ?_⟩
  obtain ⟨⟨c, S1⟩, e1, h⟩ := bind_some h
  obtain ⟨z, e2, h⟩ := bind_some h
  cases h
  refine q S _ _ e1 W s _ R fun v W1 R1 f1 r1 => ?_
  simp only at e2
  unfold gNeg at e2
  split at e2
  · cases e2; exact ⟨_, r1.int_inv, k _ W1 R1 f1 (.int _)⟩
  · cases e2
end

/-! ### argument lists, displays -/
def aNil : AF := fun S => some ([], S)
def aCons (f : EF) (g : AF) : AF := fun S => (f S).bind fun p => (g p.2).bind fun q => some (p.1 :: q.1, q.2)
def eTup (f : AF) : EF := fun S => (f S).bind fun p => if p.1.length ≤ LIM then some (.tup p.1, p.2) else none
def cLst (f : AF) : CF := fun S => (f S).bind fun p => if p.1.length ≤ LIM then some (.lst p.1, p.2) else none
def eNew (f : CF) : EF := fun S => (f S).bind fun p => match p.1 with
  | .lst ds => some (.lst ds, p.2)
  | .dct ds => some (.dct ds, p.2)
  | _ => none
section
variable {X : Cx} {pos : Pos} {e : Expr} {es : List Expr} {f : EF} {g : AF} {c : CF}
theorem ma_nil : MA X [] aNil := ⟨_, pa_nil, fun S d S' h W s Q R k => by cases h; exact k _ W R .refl .nil⟩
theorem ma_cons (h : ME X e f) (hr : MA X es g) (hs : starEach (e :: es) X.env = (false, eval e X.env) :: starEach es X.env := by rfl) : MA X (e :: es) (aCons f g) := by
  obtain ⟨t, p, q⟩ := h
  obtain ⟨u, p', q'⟩ := hr
  refine ⟨_, pa_cons p p' hs, fun S d S' h W s Q R k => ?_⟩
  obtain ⟨⟨d1, S1⟩, e1, h⟩ := bind_some h
  obtain ⟨⟨d2, S2⟩, e2, h⟩ := bind_some h
  cases h
  refine q S _ _ e1 W s _ R fun v W1 R1 f1 r1 => ?_
  exact q' S1 _ _ e2 W1 s _ R1 fun vs W2 R2 f2 r2 => k _ W2 R2 (f1.trans f2) (.cons (r1.up f2) r2)
theorem me_tup {k} (h : MA X es g) : ME X (.Tuple es k pos) (eTup g) := by
  obtain ⟨t, p, q⟩ := h
  refine ⟨_, pe_tup p, fun S d S' h W s Q R k => ?_⟩
  obtain ⟨⟨ds, S1⟩, e1, h⟩ := bind_some h
  simp only at h
  split at h
  · rename_i c
    cases h
    refine q S _ _ e1 W s _ R fun vs W1 R1 f1 r1 => ?_
    refine ⟨by rw [r1.length]; exact Nat.le_trans c lim_line, fun p hp => ?_⟩
    obtain ⟨R2, f2⟩ := R1.al (o := .tup vs) hp
    exact k _ _ R2 (f1.trans f2) (.tup (.of upd_same) (r1.up f2))
  · cases h
theorem mf_lst (h : MA X es g) : MF X (.List es pos) (cLst g) := by
  obtain ⟨t, p, q⟩ := h
  refine ⟨_, pe_lst p, fun S d S' h W s Q R k => ?_⟩
  obtain ⟨⟨ds, S1⟩, e1, h⟩ := bind_some h
  simp only at h
  split at h
  · rename_i c
    cases h
    refine q S _ _ e1 W s _ R fun vs W1 R1 f1 r1 => ?_
    refine ⟨by rw [r1.length]; exact Nat.le_trans c lim_line, fun p hp => ?_⟩
    obtain ⟨R2, f2, n⟩ := R1.newLst hp r1
    exact k _ _ R2 (f1.trans f2) (f1.hp _ hp) n
  · cases h
theorem me_new (h : MF X e c) : ME X e (eNew c) := by
  obtain ⟨t, p, q⟩ := h
  refine ⟨t, p, fun S d S' h W s Q R k => ?_⟩
  obtain ⟨⟨c, S1⟩, e1, h⟩ := bind_some h
  refine q S _ _ e1 W s _ R fun a W1 R1 f1 hp n => ?_
  cases c with
  | lst ds =>
    cases h
    obtain ⟨W2, e2, R2, f2, r⟩ := R1.freezeLst f1 hp n
    rw [← e2]
    exact k _ W2 R2 f2 r
  | dct ds =>
    cases h
    obtain ⟨W2, e2, R2, f2, r⟩ := R1.freezeDct f1 hp n
    rw [← e2]
    exact k _ W2 R2 f2 r
  | obj C fs => cases h
  | dT ds => cases h
end

/-! ### slices -/
def cutD (xs : List D) (lo hi : Option Int) : List D := (xs.drop (HT.sIx xs.length 0 lo)).take (HT.sIx xs.length xs.length hi - HT.sIx xs.length 0 lo)
def oNone : OF := fun S => some (none, S)
def oSome (f : EF) : OF := fun S => (f S).bind fun p => match p.1 with
  | .int i => some (some i, p.2)
  | _ => none
def gSl (d : D) (lo hi : Option Int) : Option D := match d with
  | .tup ds => some (.tup (cutD ds lo hi))
  | .str z => if z.length ≤ LIM then some (.str (cutS z lo hi)) else none
  | _ => none
def gSlL (d : D) (lo hi : Option Int) : Option Cell := match d with
  | .lst ds => some (.lst (cutD ds lo hi))
  | .sc ds => some (.lst (cutD ds lo hi))
  | _ => none
def eSl (f : EF) (l h : OF) : EF := fun S => (f S).bind fun p => (l p.2).bind fun q => (h q.2).bind fun r => (gSl p.1 q.1 r.1).bind fun z => some (z, r.2)
def cSl (f : EF) (l h : OF) : CF := fun S => (f S).bind fun p => (l p.2).bind fun q => (h q.2).bind fun r => (gSlL (vw r.2 p.1) q.1 r.1).bind fun z => some (z, r.2)
def cSlV (i : Nat) (l h : OF) : CF := fun S => if held i S then (l S).bind fun q => (h q.2).bind fun r => (sees i r.2).bind fun d => (gSlL d q.1 r.1).bind fun z => some (z, r.2) else none
section
variable {X : Cx} {pos p2 : Pos} {e : Expr} {lo hi : Option Expr} {f : EF} {l h : OF}
theorem mo_none : MO X none oNone := ⟨_, po_none, fun S d S' h W s Q R k => by cases h; exact k W R .refl⟩
theorem mo_some (h : ME X e f) : MO X (some e) (oSome f) := by
  obtain ⟨t, p, q⟩ := h
  refine ⟨_, po_some p, fun S d S' h W s Q R k => ?_⟩
  obtain ⟨⟨d1, S1⟩, e1, h⟩ := bind_some h
  simp only at h
  split at h
  · cases h
    exact q S _ _ e1 W s _ R fun v W1 R1 f1 r1 => ⟨_, r1.int_inv, k W1 R1 f1⟩
  · cases h
theorem cut_rv {K : PySem.W.Frag} {F : Hp} {io : List Addr} {vs : List V} {ds : List D} (r : RVs K F io vs ds) (lo hi : Option Int) : RVs K F io (cutV vs lo hi) (cutD ds lo hi) := by
  unfold cutV cutD
  rw [r.length]
  exact (r.drop _).take _
theorem me_sl (he : ME X e f) (hl : MO X lo l) (hh : MO X hi h) : ME X (.Subscript e (.Slice lo hi none p2) pos) (eSl f l h) := by
  obtain ⟨t, p, q⟩ := he
  obtain ⟨tl, pl, ql⟩ := hl
  obtain ⟨th, ph, qh⟩ := hh
  refine ⟨_, pe_slice (sl_tupA.or sl_str) p pl ph, fun S d S' hz W s Q R k => ?_⟩
  obtain ⟨⟨d1, S1⟩, e1, hz⟩ := bind_some hz
  obtain ⟨⟨d2, S2⟩, e2, hz⟩ := bind_some hz
  obtain ⟨⟨d3, S3⟩, e3, hz⟩ := bind_some hz
  obtain ⟨z, e4, hz⟩ := bind_some hz
  cases hz
  refine q S _ _ e1 W s _ R fun v W1 R1 f1 r1 => ?_
  refine ql S1 _ _ e2 W1 s _ R1 fun W2 R2 f2 => ?_
  refine qh S2 _ _ e3 W2 s _ R2 fun W3 R3 f3 => ?_
  have r3 := (r1.up f2).up f3
  have ff := (f1.trans f2).trans f3
  simp only at e4
  unfold gSl at e4
  split at e4
  · cases e4
    obtain ⟨a, vs, rfl, h1, h2⟩ := r3.tup_inv
    refine .inl ⟨a, vs, rfl, sqT_mono R3.sub h1, fun w => ?_, fun _ p hp => ?_⟩
    · refine k _ W3 R3 ff (.tup h1 ?_)
      have e : cutV vs d2 d3 = vs := by unfold cutV; rw [w.1, w.2]; simp
      rw [← e]
      exact cut_rv h2 _ _
    · obtain ⟨R4, f4⟩ := R3.al (o := .tup (cutV vs d2 d3)) hp
      exact k _ _ R4 (ff.trans f4) (.tup (.of upd_same) ((cut_rv h2 _ _).up f4))
  · split at e4
    · rename_i c
      cases e4
      exact .inr ⟨_, r3.str_inv, Nat.le_trans c lim_line, k _ W3 R3 ff (.str _)⟩
    · cases e4
  · cases e4
theorem sl_new {K : PySem.W.Frag} {W0 W : Wd} {S : Ms} {s : L2.St} {r0 : List Slot} (R : Rel K W S s) (f0 : Fr W0 r0 s W S.r s) {v : V} {d : D} {lo hi : Option Int} {c : Cell} (r : RH K W v d) (e : gSlL d lo hi = some c) {Q : VK}
    (k : ∀ a W', Rel K W' S s → Fr W0 r0 s W' S.r s → W0.H a = none → New K W' S s a c → Q (.ref a) W'.H) : rSlL K v lo hi W.H Q := by
  unfold gSlL at e
  split at e
  · cases e
    obtain ⟨a, vs, rfl, h1, h2⟩ := r
    refine ⟨a, vs, rfl, .of h1, fun p hp => ?_⟩
    obtain ⟨R4, f4, n⟩ := R.newLst hp (cut_rv h2 lo hi)
    exact k _ _ R4 (f0.trans f4) (f0.hp _ hp) n
  · cases e
    obtain ⟨a, vs, rfl, h1, h2⟩ := RV.sc_inv r
    refine ⟨a, vs, rfl, sqL_mono R.sub h1, fun p hp => ?_⟩
    obtain ⟨R4, f4, n⟩ := R.newLst hp (cut_rv h2 lo hi)
    exact k _ _ R4 (f0.trans f4) (f0.hp _ hp) n
  · cases e
theorem mf_sl (he : ME X e f) (hl : MO X lo l) (hh : MO X hi h) : MF X (.Subscript e (.Slice lo hi none p2) pos) (cSl f l h) := by
  obtain ⟨t, p, q⟩ := he
  obtain ⟨tl, pl, ql⟩ := hl
  obtain ⟨th, ph, qh⟩ := hh
  refine ⟨_, pe_slice sl_list p pl ph, fun S d S' hz W s Q R k => ?_⟩
  obtain ⟨⟨d1, S1⟩, e1, hz⟩ := bind_some hz
  obtain ⟨⟨d2, S2⟩, e2, hz⟩ := bind_some hz
  obtain ⟨⟨d3, S3⟩, e3, hz⟩ := bind_some hz
  obtain ⟨z, e4, hz⟩ := bind_some hz
  cases hz
  refine q S _ _ e1 W s _ R fun v W1 R1 f1 r1 => ?_
  refine ql S1 _ _ e2 W1 s _ R1 fun W2 R2 f2 => ?_
  refine qh S2 _ _ e3 W2 s _ R2 fun W3 R3 f3 => ?_
  exact sl_new R3 ((f1.trans f2).trans f3) (R3.vw ((r1.up f2).up f3)) e4 k
theorem mf_slV {x : Str} {xp : Pos} (i : Nat) (hl : MO X lo l) (hh : MO X hi h) (hN : X.N[i]? = some x := by rfl) (hv : Vis X.env.scope x := by first | exact Or.inl rfl | exact Or.inr (Or.inl rfl) | exact Or.inr (Or.inr rfl))
    (hd : (x == ("__debug__" : Str)) = false := by decide) (hcd : (x == ("__classdict__" : Str)) = false := by decide) : MF X (.Subscript (.Name x xp) (.Slice lo hi none p2) pos) (cSlV i l h) := by
  obtain ⟨tl, pl, ql⟩ := hl
  obtain ⟨th, ph, qh⟩ := hh
  refine ⟨_, pe_slice sl_list (pe_var hN hv hd hcd) pl ph, fun S d S' hz W s Q R k => ?_⟩
  unfold cSlV at hz
  split at hz
  · rename_i hh
    obtain ⟨⟨d2, S2⟩, e2, hz⟩ := bind_some hz
    obtain ⟨⟨d3, S3⟩, e3, hz⟩ := bind_some hz
    obtain ⟨d1, e1, hz⟩ := bind_some hz
    obtain ⟨z, e4, hz⟩ := bind_some hz
    cases hz
    obtain ⟨v, ev⟩ := R.held hh
    refine ⟨v, ev, ?_⟩
    refine ql S _ _ e2 W s _ R fun W2 R2 f2 => ?_
    refine qh S2 _ _ e3 W2 s _ R2 fun W3 R3 f3 => ?_
    obtain ⟨v', ev', r⟩ := R3.sees e1
    rw [ev] at ev'; cases ev'
    exact sl_new R3 (f2.trans f3) r e4 k
  · cases hz
end

/-! ### built-ins that are called -/
/-- of one value that may be only seen; of several -/
def CallM (X : Cx) (f : Value) (g : D → Option D) : Prop := ∃ r, CallR X f r ∧ ∀ x d z, g d = some z → ∀ W S s (Q : VK), Rel X.K W S s → RH X.K W x d → (∀ v W', Rel X.K W' S s → Fr W S.r s W' S.r s → RV X.K W'.F W'.io v z → Q v W'.H) → r [x] W.H Q
def CallMF (X : Cx) (f : Value) (g : D → Option Cell) : Prop := ∃ r, CallR X f r ∧ ∀ x d c, g d = some c → ∀ W S s (Q : VK), Rel X.K W S s → RH X.K W x d → (∀ p o, W.H p = none → New X.K (W.wr p o) S s p c → Rel X.K (W.wr p o) S s → Fr W S.r s (W.wr p o) S.r s → Q (.ref p) (upd W.H p o)) → r [x] W.H Q
def CallMs (X : Cx) (f : Value) (g : List D → Option D) : Prop := ∃ r, CallR X f r ∧ ∀ xs ds z, g ds = some z → ∀ W S s (Q : VK), Rel X.K W S s → RVs X.K W.F W.io xs ds → (∀ v W', Rel X.K W' S s → Fr W S.r s W' S.r s → RV X.K W'.F W'.io v z → Q v W'.H) → r xs W.H Q
def eCall (g : D → Option D) (f : EF) : EF := fun S => (f S).bind fun p => (g (vw p.2 p.1)).bind fun z => some (z, p.2)
def eCallV (g : D → Option D) (i : Nat) : EF := fun S => (sees i S).bind fun d => (g d).bind fun z => some (z, S)
def cCall (g : D → Option Cell) (f : EF) : CF := fun S => (f S).bind fun p => (g (vw p.2 p.1)).bind fun z => some (z, p.2)
def cCallV (g : D → Option Cell) (i : Nat) : CF := fun S => (sees i S).bind fun d => (g d).bind fun z => some (z, S)
def eCalls (g : List D → Option D) (f : AF) : EF := fun S => (f S).bind fun p => (g p.1).bind fun z => some (z, p.2)
section
variable {X : Cx} {x y : Str} {p pos yp : Pos} {e : Expr} {es : List Expr} {id T : String} {f : EF} {fs : AF} {g : D → Option D} {gc : D → Option Cell} {gs : List D → Option D}
theorem tc_one {K : PySem.W.Frag} {r : List V → Hp → VK → Prop} {t : TE} (h : ∀ x d z, g d = some z → ∀ W S s (Q : VK), Rel K W S s → RH K W x d → (∀ v W', Rel K W' S s → Fr W S.r s W' S.r s → RV K W'.F W'.io v z → Q v W'.H) → r [x] W.H Q) (q : TEok K t f) :
    TEok K (tCB r (tCons t tNil)) (eCall g f) := by
  intro S d S' hz W s Q R k
  obtain ⟨⟨d1, S1⟩, e1, hz⟩ := bind_some hz
  obtain ⟨z, e2, hz⟩ := bind_some hz
  cases hz
  refine q S _ _ e1 W s _ R fun v W1 R1 f1 r1 => ?_
  exact h v _ _ e2 W1 S1 s _ R1 (R1.vw r1) fun v W2 R2 f2 r2 => k v W2 R2 (f1.trans f2) r2
theorem tc_oneV {K : PySem.W.Frag} {r : List V → Hp → VK → Prop} {i : Nat} (h : ∀ x d z, g d = some z → ∀ W S s (Q : VK), Rel K W S s → RH K W x d → (∀ v W', Rel K W' S s → Fr W S.r s W' S.r s → RV K W'.F W'.io v z → Q v W'.H) → r [x] W.H Q) :
    TEok K (tCB r (tCons (tVar i) tNil)) (eCallV g i) := by
  intro S d S' hz W s Q R k
  obtain ⟨d1, e1, hz⟩ := bind_some hz
  obtain ⟨z, e2, hz⟩ := bind_some hz
  cases hz
  obtain ⟨v, ev, rv⟩ := R.sees e1
  exact ⟨v, ev, h v _ _ e2 W S s _ R rv k⟩
theorem tc_new {K : PySem.W.Frag} {r : List V → Hp → VK → Prop} {t : TE} (h : ∀ x d c, gc d = some c → ∀ W S s (Q : VK), Rel K W S s → RH K W x d → (∀ p o, W.H p = none → New K (W.wr p o) S s p c → Rel K (W.wr p o) S s → Fr W S.r s (W.wr p o) S.r s → Q (.ref p) (upd W.H p o)) → r [x] W.H Q) (q : TEok K t f) :
    TFok K (tCB r (tCons t tNil)) (cCall gc f) := by
  intro S d S' hz W s Q R k
  obtain ⟨⟨d1, S1⟩, e1, hz⟩ := bind_some hz
  obtain ⟨z, e2, hz⟩ := bind_some hz
  cases hz
  refine q S _ _ e1 W s _ R fun v W1 R1 f1 r1 => ?_
  exact h v _ _ e2 W1 S1 s _ R1 (R1.vw r1) fun p o hp n R2 f2 => k p _ R2 (f1.trans f2) (f1.hp _ hp) n
theorem tc_newV {K : PySem.W.Frag} {r : List V → Hp → VK → Prop} {i : Nat} (h : ∀ x d c, gc d = some c → ∀ W S s (Q : VK), Rel K W S s → RH K W x d → (∀ p o, W.H p = none → New K (W.wr p o) S s p c → Rel K (W.wr p o) S s → Fr W S.r s (W.wr p o) S.r s → Q (.ref p) (upd W.H p o)) → r [x] W.H Q) :
    TFok K (tCB r (tCons (tVar i) tNil)) (cCallV gc i) := by
  intro S d S' hz W s Q R k
  obtain ⟨d1, e1, hz⟩ := bind_some hz
  obtain ⟨z, e2, hz⟩ := bind_some hz
  cases hz
  obtain ⟨v, ev, rv⟩ := R.sees e1
  exact ⟨v, ev, h v _ _ e2 W S s _ R rv fun p o hp n R2 f2 => k p _ R2 f2 hp n⟩
theorem tc_s {K : PySem.W.Frag} {r : List V → Hp → VK → Prop} {t : TA} (h : ∀ xs ds z, gs ds = some z → ∀ W S s (Q : VK), Rel K W S s → RVs K W.F W.io xs ds → (∀ v W', Rel K W' S s → Fr W S.r s W' S.r s → RV K W'.F W'.io v z → Q v W'.H) → r xs W.H Q) (q : TAok K t fs) :
    TEok K (tCB r t) (eCalls gs fs) := by
  intro S d S' hz W s Q R k
  obtain ⟨⟨d1, S1⟩, e1, hz⟩ := bind_some hz
  obtain ⟨z, e2, hz⟩ := bind_some hz
  cases hz
  refine q S _ _ e1 W s _ R fun v W1 R1 f1 r1 => ?_
  exact h v _ _ e2 W1 S1 s _ R1 r1 fun v W2 R2 f2 r2 => k v W2 R2 (f1.trans f2) r2
theorem me_callB (hc : CallM X (.builtin id) g) (hg : Gl X x) (hm : X.mg x = none) (hv : bootBuiltins x = some (.builtin id)) (ha : ME X e f) (hn : x ≠ "__name__" := by decide) (hdb : (x == ("__debug__" : Str)) = false := by decide)
    (hs : starEach [e] X.env = (false, eval e X.env) :: starEach [] X.env := by rfl) (hpl : (backTo pos (starEach [] X.env)).any (·.1) = false := by rfl) : ME X (.Call (.Name x p) [e] [] pos) (eCall g f) := by
  obtain ⟨r, h1, h2⟩ := hc
  obtain ⟨t, p, q⟩ := ha
  exact ⟨_, pe_callB h1 hg hm hv (pa_cons p pa_nil hs) hn hdb hs hpl, tc_one h2 q⟩
theorem me_callBV (i : Nat) (hc : CallM X (.builtin id) g) (hg : Gl X x) (hm : X.mg x = none) (hv : bootBuiltins x = some (.builtin id)) (hN : X.N[i]? = some y := by rfl) (hy : Vis X.env.scope y := by first | exact Or.inl rfl | exact Or.inr (Or.inl rfl) | exact Or.inr (Or.inr rfl))
    (hn : x ≠ "__name__" := by decide) (hdb : (x == ("__debug__" : Str)) = false := by decide) (hd : (y == ("__debug__" : Str)) = false := by decide) (hcd : (y == ("__classdict__" : Str)) = false := by decide)
    (hs : starEach [.Name y yp] X.env = (false, eval (.Name y yp) X.env) :: starEach [] X.env := by rfl) (hpl : (backTo pos (starEach [] X.env)).any (·.1) = false := by rfl) : ME X (.Call (.Name x p) [.Name y yp] [] pos) (eCallV g i) := by
  obtain ⟨r, h1, h2⟩ := hc
  exact ⟨_, pe_callB h1 hg hm hv (pa_cons (pe_var hN hy hd hcd) pa_nil hs) hn hdb hs hpl, tc_oneV h2⟩
theorem me_callT (hc : CallM X (.type T) g) (hg : Gl X x) (hm : X.mg x = none) (hv : bootBuiltins x = some (.type T)) (ha : ME X e f) (hn : x ≠ "__name__" := by decide) (hdb : (x == ("__debug__" : Str)) = false := by decide)
    (hs : starEach [e] X.env = (false, eval e X.env) :: starEach [] X.env := by rfl) (hpl : (backTo pos (starEach [] X.env)).any (·.1) = false := by rfl) : ME X (.Call (.Name x p) [e] [] pos) (eCall g f) := by
  obtain ⟨r, h1, h2⟩ := hc
  obtain ⟨t, p, q⟩ := ha
  exact ⟨_, pe_callTy h1 hg hm hv (pa_cons p pa_nil hs) hn hdb hs hpl, tc_one h2 q⟩
theorem me_callTV (i : Nat) (hc : CallM X (.type T) g) (hg : Gl X x) (hm : X.mg x = none) (hv : bootBuiltins x = some (.type T)) (hN : X.N[i]? = some y := by rfl) (hy : Vis X.env.scope y := by first | exact Or.inl rfl | exact Or.inr (Or.inl rfl) | exact Or.inr (Or.inr rfl))
    (hn : x ≠ "__name__" := by decide) (hdb : (x == ("__debug__" : Str)) = false := by decide) (hd : (y == ("__debug__" : Str)) = false := by decide) (hcd : (y == ("__classdict__" : Str)) = false := by decide)
    (hs : starEach [.Name y yp] X.env = (false, eval (.Name y yp) X.env) :: starEach [] X.env := by rfl) (hpl : (backTo pos (starEach [] X.env)).any (·.1) = false := by rfl) : ME X (.Call (.Name x p) [.Name y yp] [] pos) (eCallV g i) := by
  obtain ⟨r, h1, h2⟩ := hc
  exact ⟨_, pe_callTy h1 hg hm hv (pa_cons (pe_var hN hy hd hcd) pa_nil hs) hn hdb hs hpl, tc_oneV h2⟩
theorem mf_callT (hc : CallMF X (.type T) gc) (hg : Gl X x) (hm : X.mg x = none) (hv : bootBuiltins x = some (.type T)) (ha : ME X e f) (hn : x ≠ "__name__" := by decide) (hdb : (x == ("__debug__" : Str)) = false := by decide)
    (hs : starEach [e] X.env = (false, eval e X.env) :: starEach [] X.env := by rfl) (hpl : (backTo pos (starEach [] X.env)).any (·.1) = false := by rfl) : MF X (.Call (.Name x p) [e] [] pos) (cCall gc f) := by
  obtain ⟨r, h1, h2⟩ := hc
  obtain ⟨t, p, q⟩ := ha
  exact ⟨_, pe_callTy h1 hg hm hv (pa_cons p pa_nil hs) hn hdb hs hpl, tc_new h2 q⟩
theorem mf_callTV (i : Nat) (hc : CallMF X (.type T) gc) (hg : Gl X x) (hm : X.mg x = none) (hv : bootBuiltins x = some (.type T)) (hN : X.N[i]? = some y := by rfl) (hy : Vis X.env.scope y := by first | exact Or.inl rfl | exact Or.inr (Or.inl rfl) | exact Or.inr (Or.inr rfl))
    (hn : x ≠ "__name__" := by decide) (hdb : (x == ("__debug__" : Str)) = false := by decide) (hd : (y == ("__debug__" : Str)) = false := by decide) (hcd : (y == ("__classdict__" : Str)) = false := by decide)
    (hs : starEach [.Name y yp] X.env = (false, eval (.Name y yp) X.env) :: starEach [] X.env := by rfl) (hpl : (backTo pos (starEach [] X.env)).any (·.1) = false := by rfl) : MF X (.Call (.Name x p) [.Name y yp] [] pos) (cCallV gc i) := by
  obtain ⟨r, h1, h2⟩ := hc
  exact ⟨_, pe_callTy h1 hg hm hv (pa_cons (pe_var hN hy hd hcd) pa_nil hs) hn hdb hs hpl, tc_newV h2⟩
theorem me_callBs (hc : CallMs X (.builtin id) gs) (hg : Gl X x) (hm : X.mg x = none) (hv : bootBuiltins x = some (.builtin id)) (ha : MA X (e :: es) fs) (hn : x ≠ "__name__" := by decide) (hdb : (x == ("__debug__" : Str)) = false := by decide)
    (hs : starEach (e :: es) X.env = (false, eval e X.env) :: starEach es X.env := by rfl) (hpl : (backTo pos (starEach es X.env)).any (·.1) = false := by rfl) : ME X (.Call (.Name x p) (e :: es) [] pos) (eCalls gs fs) := by
  obtain ⟨r, h1, h2⟩ := hc
  obtain ⟨t, p, q⟩ := ha
  exact ⟨_, pe_callB h1 hg hm hv p hn hdb hs hpl, tc_s h2 q⟩
end

/-! which -/
def gLen : D → Option D
  | .str z => if z.length ≤ LIM then some (.int z.length) else none
  | .lst ds | .tup ds | .sc ds => some (.int ds.length)
  | _ => none
def gInt : D → Option D
  | .int i => some (.int i)
  | .bl k => some (.int (if k then 1 else 0))
  | _ => none
def gAbs : D → Option D
  | .int i => some (.int (if i < 0 then -i else i))
  | _ => none
def gStr : D → Option D
  | .int i => if -BDIV < i ∧ i < BDIV then some (.str (toString i)) else none
  | _ => none
def gMax2 : List D → Option D
  | [.int i, .int j] => some (.int (if j > i then j else i))
  | _ => none
def gMin2 : List D → Option D
  | [.int i, .int j] => some (.int (if j < i then j else i))
  | _ => none
def boolsD : List D → Option (List Bool)
  | [] => some []
  | .bl b :: r => (boolsD r).bind fun q => some (b :: q)
  | _ => none
def intsD : List D → Option (List Int)
  | [] => some []
  | .int b :: r => (intsD r).bind fun q => some (b :: q)
  | _ => none
def gAll : D → Option D
  | .lst ds => (boolsD ds).bind fun q => some (.bl (q.all id))
  | _ => none
def gAny : D → Option D
  | .lst ds => (boolsD ds).bind fun q => some (.bl (q.any id))
  | _ => none
def gSum : D → Option D
  | .lst ds => (intsD ds).bind fun q => some (.int q.sum)
  | _ => none
def gList : D → Option Cell
  | .lst ds | .tup ds | .sc ds => some (.lst ds)
  | _ => none
def gTuple : D → Option D
  | .lst ds | .tup ds | .sc ds => some (.tup ds)
  | _ => none
def tyName : D → Option String
  | .non => some "NoneType" | .bl _ => some "bool" | .int _ => some "int" | .str _ => some "str"
  | .tup _ => some "tuple" | .lst _ => some "list" | .dct _ => some "dict"
  | _ => none
def gIsi (T : String) (d : D) : Option D := (tyName d).bind fun n => (kitB n T).bind fun b => some (.bl b)
section
variable {X : Cx}
theorem boolsRv {K : PySem.W.Frag} {F : Hp} {io : List Addr} : ∀ {vs : List V} {ds : List D} {bs : List Bool}, RVs K F io vs ds → boolsD ds = some bs → vs = bs.map V.bl
  | _, _, _, .nil, e => by cases e; rfl
  | _, _, _, @RVs.cons _ _ _ v vs d ds h t, e => by
    cases d with
    | bl b =>
      have e : (boolsD ds).bind (fun q => some (b :: q)) = some _ := e
      obtain ⟨q, e1, e⟩ := bind_some e
      cases e
      rw [h.bl_inv, boolsRv t e1]; rfl
    | _ => cases e
theorem intsRv {K : PySem.W.Frag} {F : Hp} {io : List Addr} : ∀ {vs : List V} {ds : List D} {bs : List Int}, RVs K F io vs ds → intsD ds = some bs → vs = bs.map V.int
  | _, _, _, .nil, e => by cases e; rfl
  | _, _, _, @RVs.cons _ _ _ v vs d ds h t, e => by
    cases d with
    | int b =>
      have e : (intsD ds).bind (fun q => some (b :: q)) = some _ := e
      obtain ⟨q, e1, e⟩ := bind_some e
      cases e
      rw [h.int_inv, intsRv t e1]; rfl
    | _ => cases e
theorem cLen : CallM X (.builtin "len") gLen := by
  refine ⟨_, call_len, fun x d z hz W S s Q R rx k => ?_⟩
  unfold gLen at hz
  split at hz
  · split at hz
    · rename_i c; cases hz; cases rhS rx; exact ⟨_, _, rfl, ⟨Nat.le_trans c lim_line, rfl⟩, k _ W R .refl (.int _)⟩
    · cases hz
  · cases hz
    obtain ⟨a, vs, rfl, h1, h2⟩ := rx
    exact ⟨_, _, rfl, .inl ⟨vs, .of h1, rfl⟩, by rw [h2.length]; exact k _ W R .refl (.int _)⟩
  · cases hz
    obtain ⟨a, vs, rfl, h1, h2⟩ := RV.tup_inv rx
    exact ⟨_, _, rfl, .inr ⟨vs, sqT_mono R.sub h1, rfl⟩, by rw [h2.length]; exact k _ W R .refl (.int _)⟩
  · cases hz
    obtain ⟨a, vs, rfl, h1, h2⟩ := RV.sc_inv rx
    exact ⟨_, _, rfl, .inl ⟨vs, sqL_mono R.sub h1, rfl⟩, by rw [h2.length]; exact k _ W R .refl (.int _)⟩
  · cases hz
theorem cInt : CallM X (.type "int") gInt := by
  refine ⟨_, call_int1, fun x d z hz W S s Q R rx k => ?_⟩
  unfold gInt at hz
  split at hz
  · cases hz; cases rhI rx; exact .inl ⟨_, rfl, k _ W R .refl (.int _)⟩
  · cases hz; cases RV.bl_inv rx; exact .inr ⟨_, rfl, k _ W R .refl (.int _)⟩
  · cases hz
theorem cAbs : CallM X (.builtin "abs") gAbs := by
  refine ⟨_, call_abs, fun x d z hz W S s Q R rx k => ?_⟩
  unfold gAbs at hz
  split at hz
  · cases hz; cases rhI rx; exact ⟨_, rfl, k _ W R .refl (.int _)⟩
  · cases hz
theorem cStr : CallM X (.type "str") gStr := by
  refine ⟨_, call_str_int, fun x d z hz W S s Q R rx k => ?_⟩
  unfold gStr at hz
  split at hz
  · split at hz
    · rename_i c
      cases hz
      cases rhI rx
      refine ⟨_, rfl, ?_, k _ W R .refl (.str _)⟩
      rename_i i
      have e : i.natAbs < 10 ^ 50 := by unfold BDIV at c; omega
      have e2 : i.natAbs < 2 ^ 200 := Nat.lt_trans e (by decide)
      have := PySem.Flt.log2_lt_of (k := 200) (by decide) e2
      omega
    · cases hz
  · cases hz
theorem cMax2 (hc : X.calm = true) : CallMs X (.builtin "max") gMax2 := by
  refine ⟨_, call_max2 hc, fun xs ds z hz W S s Q R rx k => ?_⟩
  unfold gMax2 at hz
  split at hz
  · cases hz
    cases rx with
    | cons h t => cases t with
      | cons h' t' => cases t'; cases h.int_inv; cases h'.int_inv; exact ⟨_, _, rfl, k _ W R .refl (.int _)⟩
  · cases hz
theorem cMin2 (hc : X.calm = true) : CallMs X (.builtin "min") gMin2 := by
  refine ⟨_, call_min2 hc, fun xs ds z hz W S s Q R rx k => ?_⟩
  unfold gMin2 at hz
  split at hz
  · cases hz
    cases rx with
    | cons h t => cases t with
      | cons h' t' => cases t'; cases h.int_inv; cases h'.int_inv; exact ⟨_, _, rfl, k _ W R .refl (.int _)⟩
  · cases hz
theorem cAll (hc : X.calm = true) : CallM X (.builtin "all") gAll := by
  refine ⟨_, cr_all hc, fun x d z hz W S s Q R rx k => ?_⟩
  unfold gAll at hz
  split at hz
  · obtain ⟨q, e1, hz⟩ := bind_some hz
    cases hz
    obtain ⟨a, vs, rfl, h1, h2⟩ := rx
    exact ⟨a, q, rfl, by rw [← boolsRv h2 e1]; exact .of h1, k _ W R .refl (.bl _)⟩
  · cases hz
theorem cAny (hc : X.calm = true) : CallM X (.builtin "any") gAny := by
  refine ⟨_, cr_any hc, fun x d z hz W S s Q R rx k => ?_⟩
  unfold gAny at hz
  split at hz
  · obtain ⟨q, e1, hz⟩ := bind_some hz
    cases hz
    obtain ⟨a, vs, rfl, h1, h2⟩ := rx
    exact ⟨a, q, rfl, by rw [← boolsRv h2 e1]; exact .of h1, k _ W R .refl (.bl _)⟩
  · cases hz
theorem cSum (hc : X.calm = true) : CallM X (.builtin "sum") gSum := by
  refine ⟨_, cr_sum hc, fun x d z hz W S s Q R rx k => ?_⟩
  unfold gSum at hz
  split at hz
  · obtain ⟨q, e1, hz⟩ := bind_some hz
    cases hz
    obtain ⟨a, vs, rfl, h1, h2⟩ := rx
    exact ⟨a, q, rfl, by rw [← intsRv h2 e1]; exact .of h1, k _ W R .refl (.int _)⟩
  · cases hz
theorem cList : CallMF X (.type "list") gList := by
  refine ⟨_, call_list_of, fun x d c hz W S s Q R rx k => ?_⟩
  have fin : ∀ {vs : List V} {ds : List D}, RVs X.K W.F W.io vs ds → ∀ l, W.H l = none → (∀ p o, W.H p = none → New X.K (W.wr p o) S s p (.lst ds) → Rel X.K (W.wr p o) S s → Fr W S.r s (W.wr p o) S.r s → Q (.ref p) (upd W.H p o)) → Q (.ref l) (upd W.H l (.lst vs)) := fun {vs ds} h l hl k => by
    obtain ⟨R2, f2, n⟩ := R.newLst hl h
    exact k l _ hl n R2 f2
  unfold gList at hz
  split at hz
  · cases hz
    obtain ⟨a, vs, rfl, h1, h2⟩ := rx
    exact ⟨a, vs, rfl, .inl (.of h1), fun l hl => fin h2 l hl k⟩
  · cases hz
    obtain ⟨a, vs, rfl, h1, h2⟩ := RV.tup_inv rx
    exact ⟨a, vs, rfl, .inr (sqT_mono R.sub h1), fun l hl => fin h2 l hl k⟩
  · cases hz
    obtain ⟨a, vs, rfl, h1, h2⟩ := RV.sc_inv rx
    exact ⟨a, vs, rfl, .inl (sqL_mono R.sub h1), fun l hl => fin h2 l hl k⟩
  · cases hz
theorem cTuple : CallM X (.type "tuple") gTuple := by
  refine ⟨_, call_tuple_of, fun x d c hz W S s Q R rx k => ?_⟩
  have fin : ∀ {vs : List V} {ds : List D}, RVs X.K W.F W.io vs ds → c = .tup ds → ∀ l, W.H l = none → Q (.ref l) (upd W.H l (.tup vs)) := fun {vs ds} h e l hl => by
    subst e
    obtain ⟨R2, f2⟩ := R.al (o := .tup vs) hl
    exact k _ _ R2 f2 (.tup (.of upd_same) (h.up f2))
  unfold gTuple at hz
  split at hz
  · cases hz
    obtain ⟨a, vs, rfl, h1, h2⟩ := rx
    exact ⟨a, vs, rfl, .inl ⟨.of h1, fun l hl => fin h2 rfl l hl⟩⟩
  · cases hz
    obtain ⟨a, vs, rfl, h1, h2⟩ := RV.tup_inv rx
    exact ⟨a, vs, rfl, .inr ⟨sqT_mono R.sub h1, k _ W R .refl rx⟩⟩
  · cases hz
    obtain ⟨a, vs, rfl, h1, h2⟩ := RV.sc_inv rx
    exact ⟨a, vs, rfl, .inl ⟨sqL_mono R.sub h1, fun l hl => fin h2 rfl l hl⟩⟩
  · cases hz
theorem tyx {K : PySem.W.Frag} {W : Wd} {S : Ms} {s : L2.St} (R : Rel K W S s) {v : V} {d : D} {n : String} (h : RV K W.F W.io v d) (e : tyName d = some n) : TyX K W.H v (.type n) := by
  cases d with
  | non => cases e; cases h.non_inv; exact .base .non
  | bl b => cases e; cases h.bl_inv; exact .base (.bl _)
  | int b => cases e; cases h.int_inv; exact .base (.int _)
  | str b => cases e; cases h.str_inv; exact .base (.str _)
  | tup ds =>
    cases e
    obtain ⟨a, vs, rfl, h1, h2⟩ := h.tup_inv
    rcases sqT_mono R.sub h1 with (h1 | ⟨o, h1⟩) | ⟨o, its, k, e1, e2, _⟩
    · exact .base (.tup h1)
    · exact .fTuple h1
    · exact .kTuple e1 e2
  | lst ds => cases e; obtain ⟨a, vs, rfl, h1, h2⟩ := h.lst_inv; exact .base (.lst (R.sub _ _ h1))
  | dct ds => cases e; obtain ⟨a, vs, rfl, h1, h2⟩ := h.dct_inv; exact .base (.dK (R.sub _ _ h1))
  | sc ds => cases e
  | ref k => cases e
/-- isinstance(e, T), T a built-in class -/
def eIsi (T : String) (f : EF) : EF := fun S => (f S).bind fun p => (gIsi T p.1).bind fun z => some (z, p.2)
theorem me_isi {e : Expr} {y : Str} {T : String} {f : EF} {p pos yp : Pos} (hg : Gl X "isinstance") (hm : X.mg "isinstance" = none) (hgy : Gl X y) (hmy : X.mg y = none) (hv : bootBuiltins y = some (.type T)) (ha : ME X e f)
    (hb : bootBuiltins "isinstance" = some (.builtin "isinstance") := by decide +kernel) (hny : y ≠ "__name__" := by decide) (hdy : (y == ("__debug__" : Str)) = false := by decide) (hn : ("isinstance" : Str) ≠ "__name__" := by decide)
    (hs : starEach [e, .Name y yp] X.env = (false, eval e X.env) :: starEach [.Name y yp] X.env := by rfl) (hpl : (backTo pos (starEach [.Name y yp] X.env)).any (·.1) = false := by rfl)
    (hs2 : starEach [.Name y yp] X.env = (false, eval (.Name y yp) X.env) :: starEach [] X.env := by rfl) : ME X (.Call (.Name "isinstance" p) [e, .Name y yp] [] pos) (eIsi T f) := by
  obtain ⟨t, p, q⟩ := ha
  refine ⟨_, pe_callB call_isi hg hm hb (pa_cons p (pa_cons (pe_bltn (v := .ty T) hgy hmy hv rfl hny hdy) pa_nil hs2) hs) hn (by decide) hs hpl, fun S d S' hz W s Q R k => ?_⟩
  obtain ⟨⟨d1, S1⟩, e1, hz⟩ := bind_some hz
  obtain ⟨z, e2, hz⟩ := bind_some hz
  cases hz
  refine q S _ _ e1 W s _ R fun v W1 R1 f1 r1 => ?_
  obtain ⟨n, e3, e2⟩ := bind_some e2
  obtain ⟨b, e4, e2⟩ := bind_some e2
  cases e2
  exact ⟨v, .ty T, .type n, .type T, b, rfl, .ty T, tyx R1 r1 e3, kit_ty e4, k _ W1 R1 f1 (.bl _)⟩
end
end M

/-! M3: statements, targets, loops, defs and their calls. -/
namespace M
open PySem PySem.Spec L2

def flQ (K : PySem.W.Frag) (D : Ends) (s : L2.St) (W : Wd) : Fl → Prop
  | .nx => D.nx s W.H
  | .bk => D.bk s W.H
  | .ct => D.ct s W.H
  | .rt d => ∀ v, RV K W.F W.io v d → D.rt v W.H
def TSok (K : PySem.W.Frag) (t : TS) (f : SF) : Prop := ∀ S fl S', f S = some (fl, S') → ∀ W s (D : Ends), Rel K W S s → (∀ W' s', Rel K W' S' s' → Fr W S.r s W' S'.r s' → flQ K D s' W' fl) → t D s W.H
def TGok (K : PySem.W.Frag) (t : TG) (g : GF) : Prop := ∀ d S S', g d S = some S' → ∀ W s v (Q : L2.St → Hp → Prop), Rel K W S s → RV K W.F W.io v d → (∀ W' s', Rel K W' S' s' → Fr W S.r s W' S'.r s' → Q s' W'.H) → t v s W.H Q
def TGsok (K : PySem.W.Frag) (t : TGs) (g : List D → Ms → Option Ms) : Prop := ∀ d S S', g d S = some S' → ∀ W s v (Q : L2.St → Hp → Prop), Rel K W S s → RVs K W.F W.io v d → (∀ W' s', Rel K W' S' s' → Fr W S.r s W' S'.r s' → Q s' W'.H) → t v s W.H Q
def MS (X : Cx) (st : Stmt) (f : SF) : Prop := ∃ t, PS X st t ∧ TSok X.K t f
def MSs (X : Cx) (st : List Stmt) (f : SF) : Prop := ∃ t, PSs X st t ∧ TSok X.K t f
def MG (X : Cx) (tg : Expr) (g : GF) : Prop := ∃ t, PG X tg t ∧ TGok X.K t g
def MGs (X : Cx) (tg : List Expr) (g : List D → Ms → Option Ms) : Prop := ∃ t, PGs X tg t ∧ TGsok X.K t g

/-! ### blocks and small statements -/
def sNil : SF := fun S => some (.nx, S)
def sSeq (f g : SF) : SF := fun S => (f S).bind fun p => match p.1 with
  | .nx => g p.2
  | fl => some (fl, p.2)
def sBk : SF := fun S => some (.bk, S)
def sCt : SF := fun S => some (.ct, S)
def sExpr (f : EF) : SF := fun S => (f S).bind fun p => some (.nx, p.2)
def sRet (f : EF) : SF := fun S => (f S).bind fun p => some (.rt p.1, p.2)
def sRetN : SF := fun S => some (.rt .non, S)
def sIf (c : BF) (f g : SF) : SF := fun S => (c S).bind fun p => if p.1 then f p.2 else g p.2
section
variable {X : Cx} {st : Stmt} {rest a b : List Stmt} {f g : SF} {e c : Expr} {fe : EF} {fc : BF} {pos : Pos}
theorem mss_nil : MSs X [] sNil := ⟨_, pss_nil, fun S fl S' h W s D R k => by cases h; exact k W s R .refl⟩
theorem mss_cons (h1 : MS X st f) (h2 : MSs X rest g) : MSs X (st :: rest) (sSeq f g) := by
  obtain ⟨t, p, q⟩ := h1
  obtain ⟨u, p', q'⟩ := h2
  refine ⟨_, pss_cons p p', fun S fl S' h W s D R k => ?_⟩
  obtain ⟨⟨fl1, S1⟩, e1, h⟩ := bind_some h
  refine q S fl1 S1 e1 W s { D with nx := u D } R fun W1 s1 R1 f1 => ?_
  cases fl1 with
  | nx => exact q' S1 fl S' h W1 s1 D R1 fun W2 s2 R2 f2 => k W2 s2 R2 (f1.trans f2)
  | bk => cases h; exact k W1 s1 R1 f1
  | ct => cases h; exact k W1 s1 R1 f1
  | rt d => cases h; exact k W1 s1 R1 f1
theorem mss_one (h1 : MS X st f) : MSs X [st] f := by
  obtain ⟨t, p, q⟩ := h1
  exact ⟨_, pss_one p, q⟩
theorem ms_pass : MS X (.Pass pos) sNil := ⟨_, ps_pass, fun S fl S' h W s D R k => by cases h; exact k W s R .refl⟩
theorem ms_break : MS X (.Break pos) sBk := ⟨_, ps_break, fun S fl S' h W s D R k => by cases h; exact k W s R .refl⟩
theorem ms_cont : MS X (.Continue pos) sCt := ⟨_, ps_continue, fun S fl S' h W s D R k => by cases h; exact k W s R .refl⟩
theorem ms_expr (he : ME X e fe) (hs : swapsWith e none pos.line X.env = pure false := by rfl) : MS X (.Expr e pos) (sExpr fe) := by
  obtain ⟨t, p, q⟩ := he
  refine ⟨_, ps_expr p hs, fun S fl S' h W s D R k => ?_⟩
  obtain ⟨⟨d1, S1⟩, e1, h⟩ := bind_some h
  cases h
  exact q S _ _ e1 W s _ R fun v W1 R1 f1 r1 => k W1 s R1 f1
theorem ms_ret (he : ME X e fe) : MS X (.Return (some e) pos) (sRet fe) := by
  obtain ⟨t, p, q⟩ := he
  refine ⟨_, ps_ret p, fun S fl S' h W s D R k => ?_⟩
  obtain ⟨⟨d1, S1⟩, e1, h⟩ := bind_some h
  cases h
  exact q S _ _ e1 W s _ R fun v W1 R1 f1 r1 => k W1 s R1 f1 v r1
theorem ms_retN : MS X (.Return none pos) sRetN := ⟨_, ps_retN, fun S fl S' h W s D R k => by cases h; exact k W s R .refl .non .non⟩
theorem ms_if (hc : MT X c fc) (ha : MSs X a f) (hb : MSs X b g) : MS X (.If c a b pos) (sIf fc f g) := by
  obtain ⟨t, p, q⟩ := hc
  obtain ⟨ta, pa, qa⟩ := ha
  obtain ⟨tb, pb, qb⟩ := hb
  refine ⟨_, ps_if p pa pb, fun S fl S' h W s D R k => ?_⟩
  obtain ⟨⟨c, S1⟩, e1, h⟩ := bind_some h
  refine q S _ _ e1 W s _ R fun W1 R1 f1 => ?_
  cases c with
  | true => exact qa S1 _ _ h W1 s D R1 fun W2 s2 R2 f2 => k W2 s2 R2 (f1.trans f2)
  | false => exact qb S1 _ _ h W1 s D R1 fun W2 s2 R2 f2 => k W2 s2 R2 (f1.trans f2)
end

/-! ### targets, assignments -/
def gNm (i : Nat) : GF := fun d S => some { S with r := S.r.set i (.val d) }
def gsNil : List D → Ms → Option Ms := fun ds S => if ds.isEmpty then some S else none
def gsCons (g : GF) (h : List D → Ms → Option Ms) : List D → Ms → Option Ms := fun ds S => match ds with
  | d :: r => (g d S).bind fun S1 => h r S1
  | [] => none
def gTp (n : Nat) (g : List D → Ms → Option Ms) : GF := fun d S => match d with
  | .tup ds => if ds.length = n then g ds S else none
  | _ => none
/-- the list in slot i is given another form -/
def modL (i : Nat) (h : List D → Option (List D)) (S : Ms) : Option Ms := match S.r[i]? with
  | some (.own (.lst ds)) => (h ds).bind fun es => some { S with r := S.r.set i (.own (.lst es)) }
  | some (.val (.ref k)) => match S.m[k]? with
    | some (.lst ds) => (h ds).bind fun es => some { S with m := S.m.set k (.lst es) }
    | _ => none
  | _ => none
def setAt (d e : D) (ds : List D) : Option (List D) := match e with
  | .int k => (ixN ds.length k).bind fun j => some (ds.set j d)
  | _ => none
def gSubV (i : Nat) (f : EF) : GF := fun d S => if held i S then (f S).bind fun p => modL i (setAt d p.1) p.2 else none
def isL (i : Nat) (S : Ms) : Bool := match sees i S with
  | some (.lst _) => true
  | _ => false
def eApp (i : Nat) (f : EF) : EF := fun S => if isL i S then (f S).bind fun p => (modL i (fun ds => if ds.length < LIM then some (ds ++ [p.1]) else none) p.2).bind fun S' => some (.non, S') else none
def eExt (i : Nat) (f : EF) : EF := fun S => if isL i S then (f S).bind fun p => match p.1 with
  | .lst es => (modL i (fun ds => if ds.length + es.length < LIM then some (ds ++ es) else none) p.2).bind fun S' => some (.non, S')
  | _ => none else none
def eRevs (i : Nat) : EF := fun S => (modL i (fun ds => some ds.reverse) S).bind fun S' => some (.non, S')
def ePop (i : Nat) : EF := fun S => match sees i S with
  | some (.lst ds) => match ds[ds.length - 1]? with
    | some d => (modL i (fun ds => some ds.dropLast) S).bind fun S' => some (d, S')
    | none => none
  | _ => none
def sAsg (f : EF) (g : GF) : SF := fun S => (f S).bind fun p => (g p.1 p.2).bind fun S' => some (.nx, S')
def sOwn (i : Nat) (c : CF) : SF := fun S => (c S).bind fun p => some (.nx, { p.2 with r := p.2.r.set i (.own p.1) })
def sCell (i : Nat) (c : CF) : SF := fun S => (c S).bind fun p => some (.nx, { r := p.2.r.set i (.val (.ref p.2.m.length)), m := p.2.m ++ [p.1] })
def sAug (i : Nat) (op : Int → Int → Int) (f : EF) : SF := fun S => match S.r[i]? with
  | some (.val (.int a)) => (f S).bind fun p => match p.1 with
    | .int b => some (.nx, { p.2 with r := p.2.r.set i (.val (.int (op a b))) })
    | _ => none
  | _ => none

section
variable {X : Cx} {pos : Pos} {x : Str} {xp : Pos} {e tg : Expr} {es : List Expr} {fe : EF} {fc : CF} {g : GF} {gs : List D → Ms → Option Ms}
theorem tg_name {K : PySem.W.Frag} {i : Nat} : TGok K (gName i) (gNm i) := by
  intro d S S' h W s v Q R r k
  cases h
  obtain ⟨R1, f1⟩ := R.setVal (i := i) r
  exact k W _ R1 f1
theorem mg_name (i : Nat) (hN : X.N.Nodup) (hi : X.N[i]? = some x := by rfl) (hx : Loc X.env.scope x := by first | exact Or.inl rfl | exact Or.inr rfl) (hf : X.fn x = true ∨ X.env.scope.names.lookup x = some .local := by first | exact .inl rfl | exact .inr rfl) : MG X (.Name x xp) (gNm i) :=
  ⟨_, pg_name hN hi hx hf, tg_name⟩
theorem mgs_nil : MGs X [] gsNil := ⟨_, pgs_nil, fun d S S' h W s v Q R r k => by
  unfold gsNil at h
  split at h
  · rename_i c
    cases h
    cases r with
    | nil => exact ⟨rfl, k W s R .refl⟩
    | cons _ _ => cases c
  · cases h⟩
theorem mgs_cons (h1 : MG X e g) (h2 : MGs X es gs) (hs : (assignEach (e :: es) X.env).map (·.2) = assign e X.env :: (assignEach es X.env).map (·.2) := by rfl) : MGs X (e :: es) (gsCons g gs) := by
  obtain ⟨t, p, q⟩ := h1
  obtain ⟨u, p', q'⟩ := h2
  refine ⟨_, pgs_cons p p' hs, fun d S S' h W s v Q R r k => ?_⟩
  unfold gsCons at h
  cases r with
  | nil => cases h
  | @cons v vs d ds r1 r2 =>
    obtain ⟨S1, e1, h⟩ := bind_some h
    exact ⟨v, vs, rfl, q d S S1 e1 W s v _ R r1 fun W1 s1 R1 f1 => q' ds S1 S' h W1 s1 vs _ R1 (r2.up f1) fun W2 s2 R2 f2 => k W2 s2 R2 (f1.trans f2)⟩
theorem mg_tup {k n : Nat} (hc : X.calm = true) (h : MGs X es gs) (hn : (assignEach es X.env).length = n := by rfl) (hst : (assignEach es X.env).findIdx? (·.1) = none := by rfl) : MG X (.Tuple es k pos) (gTp n gs) := by
  obtain ⟨t, p, q⟩ := h
  refine ⟨_, pg_tup hc p hn hst, fun d S S' h W s v Q R r k => ?_⟩
  unfold gTp at h
  split at h
  · split at h
    · rename_i c
      obtain ⟨a, vs, rfl, h1, h2⟩ := r.tup_inv
      exact ⟨a, vs, rfl, sqT_mono R.sub h1, by rw [h2.length]; exact c, q _ S S' h W s vs Q R h2 k⟩
    · cases h
  · cases h
theorem modL_ok {K : PySem.W.Frag} {W : Wd} {S S' : Ms} {s : L2.St} (R : Rel K W S s) {i : Nat} {h : List D → Option (List D)} (e : modL i h S = some S') : ∃ a ds es vs, s[i]? = some (some (.ref a)) ∧ sees i S = some (.lst ds) ∧ h ds = some es ∧ W.H a = some (.lst vs) ∧ RVs K W.F W.io vs ds ∧
    ∀ ws, RVs K W.F W.io ws es → Rel K (W.wr a (.lst ws)) S' s ∧ Fr W S.r s (W.wr a (.lst ws)) S'.r s := by
  unfold modL at e
  split at e
  · rename_i ds q
    obtain ⟨es, e1, e⟩ := bind_some e
    cases e
    obtain ⟨a, e2, n1, n2, vs, h1, h2⟩ := R.owns i _ q
    refine ⟨a, ds, es, vs, e2, by unfold sees; rw [q], e1, h1, h2, fun ws r => ?_⟩
    exact R.wrOwn q e2 (c' := .lst es) ⟨ws, upd_same, r⟩
  · rename_i k q
    split at e
    · rename_i ds q2
      obtain ⟨es, e1, e⟩ := bind_some e
      cases e
      obtain ⟨v, e2, r⟩ := R.slots i _ q
      obtain ⟨a, rfl, e3⟩ := r.ref_inv
      obtain ⟨vs, h1, h2⟩ := R.cells k _ a q2 e3
      refine ⟨a, ds, es, vs, e2, by unfold sees; rw [q]; show some (vw S (.ref k)) = _; unfold vw; simp only [q2], e1, h1, h2, fun ws r => ?_⟩
      exact R.wrCell e3 (c' := .lst es) ⟨ws, upd_same, r⟩
    · cases e
  · cases e
theorem mg_sub (i : Nat) {ie : Expr} {fi : EF} (hi : ME X ie fi) (hN : X.N[i]? = some x := by rfl) (hv : Vis X.env.scope x := by first | exact Or.inl rfl | exact Or.inr (Or.inl rfl) | exact Or.inr (Or.inr rfl))
    (hd : (x == ("__debug__" : Str)) = false := by decide) (hcd : (x == ("__classdict__" : Str)) = false := by decide)
    (ha : ∀ v, assign (.Subscript (.Name x xp) ie pos) X.env v = (do
      let ov ← holding [v] (eval (.Name x xp) X.env)
      let iv ← holding [v, ov] (eval ie X.env)
      standAt pos
      holding [v, ov, iv] (setItem ov iv v)
      release [v, ov, iv] []) := by intro _; rfl) : MG X (.Subscript (.Name x xp) ie pos) (gSubV i fi) := by
  obtain ⟨t, p, q⟩ := hi
  refine ⟨_, pg_sub (pe_var hN hv hd hcd) p set_list ha, fun d S S' h W s v Q R r k => ?_⟩
  unfold gSubV at h
  split at h
  · rename_i hh
    obtain ⟨⟨d1, S1⟩, e1, h⟩ := bind_some h
    obtain ⟨u, eu⟩ := R.held hh
    refine ⟨u, eu, ?_⟩
    refine q S _ _ e1 W s _ R fun y W1 R1 f1 r1 => ?_
    obtain ⟨a, ds, es, vs, e2, _, e3, h1, h2, kk⟩ := modL_ok R1 h
    rw [eu] at e2; cases e2
    unfold setAt at e3
    simp only at e3
    split at e3
    · obtain ⟨j, e4, e3⟩ := bind_some e3
      cases e3
      obtain ⟨R2, f2⟩ := kk _ (h2.set j (r.up f1))
      exact ⟨a, vs, _, j, rfl, r1.int_inv, h1, by rw [h2.length]; exact e4, k _ _ R2 (f1.trans f2)⟩
    · cases e3
  · cases h
theorem isL_ok {K : PySem.W.Frag} {W : Wd} {S : Ms} {s : L2.St} (R : Rel K W S s) {i : Nat} (h : isL i S = true) : ∃ v, s[i]? = some (some v) ∧ tyV K "list" v W.H := by
  unfold isL at h
  split at h
  · rename_i ds e
    obtain ⟨v, e1, a, vs, rfl, h1, h2⟩ := R.sees e
    exact ⟨_, e1, .inl ⟨rfl, vs, .of h1⟩⟩
  · cases h
theorem me_app (i : Nat) {apos : Pos} (he : ME X e fe) (hN : X.N[i]? = some x := by rfl) (hv : Vis X.env.scope x := by first | exact Or.inl rfl | exact Or.inr (Or.inl rfl) | exact Or.inr (Or.inr rfl))
    (hd : (x == ("__debug__" : Str)) = false := by decide) (hcd : (x == ("__classdict__" : Str)) = false := by decide)
    (hbase : attributeBase (.Name x xp) "append" X.env (eval (.Name x xp) X.env) = eval (.Name x xp) X.env := by rfl)
    (hfew : ((backTo pos (starEach [e] X.env)).all (fun x => !x.1) && (backToKw pos (keywordEach [] X.env)).all (fun x => x.1.isSome)
      && decide ([e].length + ([] : List Keyword).length + (if ([] : List Keyword).isEmpty then 0 else 1) < 30)) = true := by rfl)
    (hline : (apos.endLine == pos.line) = true := by rfl) (hs : starEach [e] X.env = (false, eval e X.env) :: starEach [] X.env := by rfl) (hplain : (backTo pos (starEach [] X.env)).any (·.1) = false := by rfl) :
    ME X (.Call (.Attribute (.Name x xp) "append" apos) [e] [] pos) (eApp i fe) := by
  obtain ⟨t, p, q⟩ := he
  refine ⟨_, pe_bm PySem.F.plainAttrs_list PySem.F.slot_list_append PySem.F.type_list_append mt_append (pe_var hN hv hd hcd) (pa_cons p pa_nil hs) hbase hfew hline hs hplain, fun S d S' h W s Q R k => ?_⟩
  unfold eApp at h
  split at h
  · rename_i hh
    obtain ⟨⟨d1, S1⟩, e1, h⟩ := bind_some h
    obtain ⟨S2, e2, h⟩ := bind_some h
    cases h
    obtain ⟨u, eu, ty⟩ := isL_ok R hh
    refine ⟨u, eu, ty, ?_⟩
    refine q S _ _ e1 W s _ R fun y W1 R1 f1 r1 => ?_
    obtain ⟨a, ds, es, vs, e3, _, e4, h1, h2, kk⟩ := modL_ok R1 e2
    rw [eu] at e3; cases e3
    split at e4
    · rename_i c
      cases e4
      obtain ⟨R2, f2⟩ := kk _ (h2.append (.cons r1 .nil))
      exact ⟨a, vs, y, rfl, rfl, h1, by rw [h2.length]; exact Nat.lt_of_lt_of_le c lim_line, k _ _ R2 (f1.trans f2) .non⟩
    · cases e4
  · cases h
theorem me_ext (i : Nat) {apos : Pos} (he : ME X e fe) (hN : X.N[i]? = some x := by rfl) (hv : Vis X.env.scope x := by first | exact Or.inl rfl | exact Or.inr (Or.inl rfl) | exact Or.inr (Or.inr rfl))
    (hd : (x == ("__debug__" : Str)) = false := by decide) (hcd : (x == ("__classdict__" : Str)) = false := by decide)
    (hbase : attributeBase (.Name x xp) "extend" X.env (eval (.Name x xp) X.env) = eval (.Name x xp) X.env := by rfl)
    (hfew : ((backTo pos (starEach [e] X.env)).all (fun x => !x.1) && (backToKw pos (keywordEach [] X.env)).all (fun x => x.1.isSome)
      && decide ([e].length + ([] : List Keyword).length + (if ([] : List Keyword).isEmpty then 0 else 1) < 30)) = true := by rfl)
    (hline : (apos.endLine == pos.line) = true := by rfl) (hs : starEach [e] X.env = (false, eval e X.env) :: starEach [] X.env := by rfl) (hplain : (backTo pos (starEach [] X.env)).any (·.1) = false := by rfl) :
    ME X (.Call (.Attribute (.Name x xp) "extend" apos) [e] [] pos) (eExt i fe) := by
  obtain ⟨t, p, q⟩ := he
  refine ⟨_, pe_bm PySem.F.plainAttrs_list PySem.F.slot_list_extend PySem.F.type_list_extend mt_extend (pe_var hN hv hd hcd) (pa_cons p pa_nil hs) hbase hfew hline hs hplain, fun S d S' h W s Q R k => ?_⟩
  unfold eExt at h
  split at h
  · rename_i hh
    obtain ⟨⟨d1, S1⟩, e1, h⟩ := bind_some h
    simp only at h
    split at h
    · obtain ⟨S2, e2, h⟩ := bind_some h
      cases h
      obtain ⟨u, eu, ty⟩ := isL_ok R hh
      refine ⟨u, eu, ty, ?_⟩
      refine q S _ _ e1 W s _ R fun y W1 R1 f1 r1 => ?_
      obtain ⟨b, zs, rfl, g1, g2⟩ := r1.lst_inv
      obtain ⟨a, ds, es, vs, e3, _, e4, h1, h2, kk⟩ := modL_ok R1 e2
      rw [eu] at e3; cases e3
      split at e4
      · rename_i c
        cases e4
        obtain ⟨R2, f2⟩ := kk _ (h2.append g2)
        exact ⟨a, b, vs, zs, rfl, rfl, h1, R1.sub _ _ g1, by rw [h2.length, g2.length]; exact Nat.le_of_lt (Nat.lt_of_lt_of_le c lim_line), k _ _ R2 (f1.trans f2) .non⟩
      · cases e4
    · cases h
  · cases h
theorem me_revs (i : Nat) {apos : Pos} (hN : X.N[i]? = some x := by rfl) (hv : Vis X.env.scope x := by first | exact Or.inl rfl | exact Or.inr (Or.inl rfl) | exact Or.inr (Or.inr rfl))
    (hd : (x == ("__debug__" : Str)) = false := by decide) (hcd : (x == ("__classdict__" : Str)) = false := by decide)
    (hbase : attributeBase (.Name x xp) "reverse" X.env (eval (.Name x xp) X.env) = eval (.Name x xp) X.env := by rfl) (hline : (apos.endLine == pos.line) = true := by rfl) :
    ME X (.Call (.Attribute (.Name x xp) "reverse" apos) [] [] pos) (eRevs i) := by
  refine ⟨_, pe_bm0 PySem.F.plainAttrs_list PySem.F.slot_list_reverse PySem.F.type_list_reverse mt_reverse (pe_var hN hv hd hcd) hbase hline, fun S d S' h W s Q R k => ?_⟩
  obtain ⟨S2, e2, h⟩ := bind_some h
  cases h
  obtain ⟨a, ds, es, vs, e3, e5, e4, h1, h2, kk⟩ := modL_ok R e2
  cases e4
  obtain ⟨R2, f2⟩ := kk _ h2.reverse
  exact ⟨_, e3, .inl ⟨rfl, vs, .of h1⟩, a, vs, rfl, rfl, h1, k _ _ R2 f2 .non⟩
theorem me_pop (i : Nat) {apos : Pos} (hN : X.N[i]? = some x := by rfl) (hv : Vis X.env.scope x := by first | exact Or.inl rfl | exact Or.inr (Or.inl rfl) | exact Or.inr (Or.inr rfl))
    (hd : (x == ("__debug__" : Str)) = false := by decide) (hcd : (x == ("__classdict__" : Str)) = false := by decide)
    (hbase : attributeBase (.Name x xp) "pop" X.env (eval (.Name x xp) X.env) = eval (.Name x xp) X.env := by rfl) (hline : (apos.endLine == pos.line) = true := by rfl) :
    ME X (.Call (.Attribute (.Name x xp) "pop" apos) [] [] pos) (ePop i) := by
  refine ⟨_, pe_bm0 PySem.F.plainAttrs_list PySem.F.slot_list_pop PySem.F.type_list_pop mt_pop (pe_var hN hv hd hcd) hbase hline, fun S d S' h W s Q R k => ?_⟩
  unfold ePop at h
  split at h
  · rename_i ds0 e0
    split at h
    · rename_i d0 ed
      obtain ⟨S2, e2, h⟩ := bind_some h
      cases h
      obtain ⟨a, ds, es, vs, e3, e5, e4, h1, h2, kk⟩ := modL_ok R e2
      rw [e0] at e5; cases e5
      cases e4
      obtain ⟨R2, f2⟩ := kk _ h2.dropLast
      obtain ⟨v, ev, rv⟩ := h2.get ed
      exact ⟨_, e3, .inl ⟨rfl, vs, .of h1⟩, a, vs, v, rfl, rfl, h1, by rw [h2.length]; exact ev, k v _ R2 f2 (rv.up f2)⟩
    · cases h
  · cases h
theorem ms_asg (he : ME X e fe) (hg : MG X tg g) (hs : swapsWithSole [tg] e pos.line X.env = pure false := by rfl) (hw : swappedStores [tg] e X.env = pure none := by rfl)
    (h1 : (assignEach [tg] X.env).map (·.2) = [assign tg X.env] := by rfl) : MS X (.Assign [tg] e pos) (sAsg fe g) := by
  obtain ⟨t, p, q⟩ := he
  obtain ⟨u, p', q'⟩ := hg
  refine ⟨_, ps_asg p p' hs hw h1, fun S fl S' h W s D R k => ?_⟩
  obtain ⟨⟨d1, S1⟩, e1, h⟩ := bind_some h
  obtain ⟨S2, e2, h⟩ := bind_some h
  cases h
  exact q S _ _ e1 W s _ R fun v W1 R1 f1 r1 => q' d1 S1 _ e2 W1 s v _ R1 r1 fun W2 s2 R2 f2 => k W2 s2 R2 (f1.trans f2)
theorem ms_set (i : Nat) (hN : X.N.Nodup) (he : ME X e fe) (hi : X.N[i]? = some x := by rfl) (hx : Loc X.env.scope x := by first | exact Or.inl rfl | exact Or.inr rfl) (hs : swapsWith e (some (.Name x xp)) pos.line X.env = pure false := by rfl)
    (hf : X.fn x = true ∨ X.env.scope.names.lookup x = some .local := by first | exact .inl rfl | exact .inr rfl) : MS X (.Assign [.Name x xp] e pos) (sAsg fe (gNm i)) := by
  obtain ⟨t, p, q⟩ := he
  refine ⟨_, ps_set hN hi hx p hs hf, fun S fl S' h W s D R k => ?_⟩
  obtain ⟨⟨d1, S1⟩, e1, h⟩ := bind_some h
  obtain ⟨S2, e2, h⟩ := bind_some h
  cases h
  exact q S _ _ e1 W s _ R fun v W1 R1 f1 r1 => tg_name (i := i) d1 S1 _ e2 W1 s v _ R1 r1 fun W2 s2 R2 f2 => k W2 s2 R2 (f1.trans f2)
theorem ts_own {K : PySem.W.Frag} {i : Nat} {t : TE} (q : TFok K t fc) : TSok K (tAsg t (gName i)) (sOwn i fc) := by
  intro S fl S' h W s D R k
  obtain ⟨⟨c1, S1⟩, e1, h⟩ := bind_some h
  cases h
  refine q S _ _ e1 W s _ R fun a W1 R1 f1 hp n => ?_
  obtain ⟨R2, f2⟩ := R1.setOwn f1 (i := i) hp n
  exact k W1 _ R2 f2
theorem ts_cell {K : PySem.W.Frag} {i : Nat} {t : TE} (q : TFok K t fc) : TSok K (tAsg t (gName i)) (sCell i fc) := by
  intro S fl S' h W s D R k
  obtain ⟨⟨c1, S1⟩, e1, h⟩ := bind_some h
  cases h
  refine q S _ _ e1 W s _ R fun a W1 R1 f1 hp n => ?_
  obtain ⟨R2, f2, r2⟩ := R1.addCell f1 hp n
  obtain ⟨R3, f3⟩ := R2.setVal (i := i) r2
  exact k (W1.cl a) _ R3 (f2.trans f3)
theorem ms_own (i : Nat) (hN : X.N.Nodup) (he : MF X e fc) (hi : X.N[i]? = some x := by rfl) (hx : Loc X.env.scope x := by first | exact Or.inl rfl | exact Or.inr rfl) (hs : swapsWith e (some (.Name x xp)) pos.line X.env = pure false := by rfl)
    (hf : X.fn x = true ∨ X.env.scope.names.lookup x = some .local := by first | exact .inl rfl | exact .inr rfl) : MS X (.Assign [.Name x xp] e pos) (sOwn i fc) := by
  obtain ⟨t, p, q⟩ := he
  exact ⟨_, ps_set hN hi hx p hs hf, ts_own q⟩
theorem ms_cell (i : Nat) (hN : X.N.Nodup) (he : MF X e fc) (hi : X.N[i]? = some x := by rfl) (hx : Loc X.env.scope x := by first | exact Or.inl rfl | exact Or.inr rfl) (hs : swapsWith e (some (.Name x xp)) pos.line X.env = pure false := by rfl)
    (hf : X.fn x = true ∨ X.env.scope.names.lookup x = some .local := by first | exact .inl rfl | exact .inr rfl) : MS X (.Assign [.Name x xp] e pos) (sCell i fc) := by
  obtain ⟨t, p, q⟩ := he
  exact ⟨_, ps_set hN hi hx p hs hf, ts_cell q⟩
theorem ms_aug (i : Nat) {op : Operator} {f : Int → Int → Int} (ho : PIp X op (ipI f)) (hN : X.N.Nodup) (he : ME X e fe) (hi : X.N[i]? = some x := by rfl) (hx : Loc X.env.scope x := by first | exact Or.inl rfl | exact Or.inr rfl)
    (hf : X.fn x = true ∨ X.env.scope.names.lookup x = some .local := by first | exact .inl rfl | exact .inr rfl) : MS X (.AugAssign (.Name x xp) op e pos) (sAug i f fe) := by
  obtain ⟨t, p, q⟩ := he
  refine ⟨_, ps_aug hN hi hx p ho hf, fun S fl S' h W s D R k => ?_⟩
  unfold sAug at h
  split at h
  · rename_i a ea
    obtain ⟨⟨d1, S1⟩, e1, h⟩ := bind_some h
    simp only at h
    split at h
    · cases h
      obtain ⟨v, ev, rv⟩ := R.slots i _ ea
      cases rv.int_inv
      refine ⟨_, ev, q S _ _ e1 W s _ R fun w W1 R1 f1 r1 => ?_⟩
      obtain ⟨R2, f2⟩ := R1.setVal (i := i) (RV.int (f a _))
      exact ⟨_, _, rfl, r1.int_inv, k W1 _ R2 (f1.trans f2)⟩
    · cases h
  · cases h
end

/-! ### what a loop walks -/
structure Yl (K : PySem.W.Frag) (J : It) (W : Wd) (ds : List D) : Prop where
  go : ∀ W2 S s, Rel K W2 S s → (∀ a o, W.F a = some o → W2.F a = some o) → W.io <+: W2.io → ∀ i d, ds[i]? = some d → J.go i W2.H ∧ ∀ x H', J.yld i W2.H x H' → ∃ W3, W3.H = H' ∧ Rel K W3 S s ∧ Fr W2 S.r s W3 S.r s ∧ RV K W3.F W3.io x d
  stop : ∀ W2 S s, Rel K W2 S s → (∀ a o, W.F a = some o → W2.F a = some o) → W.io <+: W2.io → J.stop ds.length W2.H
def TIok (K : PySem.W.Frag) (wi : TI) (f : AF) : Prop := ∀ S ds S', f S = some (ds, S') → ∀ W s (Rr : It → Hp → Prop), Rel K W S s → (∀ J W', Rel K W' S' s → Fr W S.r s W' S'.r s → Yl K J W' ds → Rr J W'.H) → wi s W.H Rr
def MI (X : Cx) (tg it : Expr) (f : AF) : Prop := ∃ wi, PI X tg it wi ∧ TIok X.K wi f
/-- a list, a tuple -/
def seqD : D → Option (List D)
  | .lst ds | .tup ds | .sc ds => some ds
  | _ => none
def iSeq (f : EF) : AF := fun S => (f S).bind fun p => (seqD p.1).bind fun ds => some (ds, p.2)
def rngD (lo : Int) (n : Nat) : List D := (List.range n).map fun i => .int (lo + (i : Nat))
open Classical in
noncomputable def iRg1 (f : EF) : AF := fun S => (f S).bind fun p => match p.1 with
  | .int n => if -B61 ≤ n ∧ n ≤ B61 then some (rngD 0 n.toNat, p.2) else none
  | _ => none
where B61 : Int := 2000000000000000000
open Classical in
noncomputable def iRg2 (f g : EF) : AF := fun S => (f S).bind fun p => (g p.2).bind fun q => match p.1, q.1 with
  | .int a, .int b => if -iRg1.B61 ≤ a ∧ a ≤ iRg1.B61 ∧ -iRg1.B61 ≤ b ∧ b ≤ iRg1.B61 then some (rngD a (b - a).toNat, q.2) else none
  | _, _ => none
section
variable {X : Cx} {tg e a b : Expr} {fe fa fb : EF}
open PySem.Spec PyProof.Rows in
theorem pi_seq {l : Expr} {tl : TE} (hl : PE X l tl) : PI X tg l (fun s H R => tl s H fun x H1 => (∃ a, x = .ref a ∧ (∃ xs, SqL X.K H1 a xs) ∧ R (Itl X.K a) H1) ∨ (∃ a, x = .ref a ∧ (∃ xs, SqT X.K H1 a xs) ∧ R (Itt X.K a) H1)) := by
  refine ⟨fun pins s σ H R I h => ?_⟩
  refine thn (hl.run pins s σ H _ I h) fun v s1 ⟨x, H1, I1, r1, q1⟩ => ?_
  rcases q1 with ⟨a, e, ⟨xs, hq⟩, q⟩ | ⟨a, e, ⟨xs, hq⟩, q⟩
  · subst e
    cases r1
    obtain ⟨its, rv, p, hz⟩ := I1.list hq
    refine wpAny_pyIter_list p.isList ?_
    refine ⟨s1.heap.objs.size, [s1.heap.objs.size], _, _, H1, rfl, I1.kept (t' := s1.toks) fun b o e => Heap.get?_push_of_some _ e, turn_list a _, ⟨_, Heap.get?_push_size _ rfl, rfl, rfl⟩, fun b hb => ?_, q⟩
    have e : b = s1.heap.objs.size := by simpa using hb
    subst e
    exact I1.fpOk (Nat.le_refl _) (I1.hok.fresh (Nat.le_refl _))
  · subst e
    cases r1
    obtain ⟨its, rv, p, hz⟩ := I1.tuple hq
    refine wpAny_pyIter_tuple (show s1.heap.IsTuple a its.toArray from p) ?_
    refine ⟨s1.heap.objs.size, [s1.heap.objs.size], _, _, H1, rfl, I1.kept (t' := s1.toks) fun b o e => Heap.get?_push_of_some _ e, turn_tuple a _, ⟨_, Heap.get?_push_size _ rfl, rfl, rfl⟩, fun b hb => ?_, q⟩
    have e : b = s1.heap.objs.size := by simpa using hb
    subst e
    exact I1.fpOk (Nat.le_refl _) (I1.hok.fresh (Nat.le_refl _))
theorem yl_list {K : PySem.W.Frag} {W : Wd} {a : Addr} {vs : List V} {ds : List D} (h : ∀ W2 : Wd, (∀ a o, W.F a = some o → W2.F a = some o) → (∀ a o, W2.F a = some o → W2.H a = some o) → SqL K W2.H a vs) (r : RVs K W.F W.io vs ds) : Yl K (Itl K a) W ds := by
  refine ⟨fun W2 S s R hF hi i d e => ?_, fun W2 S s R hF hi => ?_⟩
  · obtain ⟨v, ev, rv⟩ := r.get e
    refine ⟨⟨vs, v, h W2 hF R.sub, ev⟩, fun x H' y => ⟨W2, y.1.symm, R, .refl, ?_⟩⟩
    have := y.2 vs (h W2 hF R.sub)
    rw [ev] at this; cases this
    exact rv.mono hF hi
  · exact ⟨vs, h W2 hF R.sub, by rw [r.length]; exact Nat.le_refl _⟩
theorem yl_tup {K : PySem.W.Frag} {W : Wd} {a : Addr} {vs : List V} {ds : List D} (h : ∀ W2 : Wd, (∀ a o, W.F a = some o → W2.F a = some o) → (∀ a o, W2.F a = some o → W2.H a = some o) → SqT K W2.H a vs) (r : RVs K W.F W.io vs ds) : Yl K (Itt K a) W ds := by
  refine ⟨fun W2 S s R hF hi i d e => ?_, fun W2 S s R hF hi => ?_⟩
  · obtain ⟨v, ev, rv⟩ := r.get e
    refine ⟨⟨vs, v, h W2 hF R.sub, ev⟩, fun x H' y => ⟨W2, y.1.symm, R, .refl, ?_⟩⟩
    have := y.2 vs (h W2 hF R.sub)
    rw [ev] at this; cases this
    exact rv.mono hF hi
  · exact ⟨vs, h W2 hF R.sub, by rw [r.length]; exact Nat.le_refl _⟩
theorem yl_rng {K : PySem.W.Frag} {W : Wd} {lo : Int} {n : Nat} : Yl K (Itr lo n) W (rngD lo n) := by
  refine ⟨fun W2 S s R hF hi i d e => ?_, fun W2 S s R hF hi => ?_⟩
  · unfold rngD at e
    rw [List.getElem?_map] at e
    have hl : i < n := by
      have := (List.getElem?_eq_some_iff.mp (Option.map_eq_some_iff.mp e).choose_spec.1).1
      simpa using this
    rw [List.getElem?_range hl] at e
    cases e
    refine ⟨hl, fun x H' y => ⟨W2, y.1.symm, R, .refl, ?_⟩⟩
    rw [y.2]
    exact .int _
  · show n ≤ (rngD lo n).length
    simp [rngD]
theorem mi_seq (he : ME X e fe) : MI X tg e (iSeq fe) := by
  obtain ⟨t, p, q⟩ := he
  refine ⟨_, pi_seq p, fun S ds S' h W s Rr R k => ?_⟩
  obtain ⟨⟨d1, S1⟩, e1, h⟩ := bind_some h
  obtain ⟨ds', e2, h⟩ := bind_some h
  cases h
  refine q S _ _ e1 W s _ R fun v W1 R1 f1 r1 => ?_
  simp only at e2
  unfold seqD at e2
  split at e2
  · cases e2
    obtain ⟨a, vs, rfl, h1, h2⟩ := r1.lst_inv
    exact .inl ⟨a, rfl, ⟨vs, .of (R1.sub _ _ h1)⟩, k _ W1 R1 f1 (yl_list (fun W2 hF hs => .of (hs _ _ (hF _ _ h1))) h2)⟩
  · cases e2
    obtain ⟨a, vs, rfl, h1, h2⟩ := r1.tup_inv
    exact .inr ⟨a, rfl, ⟨vs, sqT_mono R1.sub h1⟩, k _ W1 R1 f1 (yl_tup (fun W2 hF hs => sqT_mono hs (sqT_mono hF h1)) h2)⟩
  · cases e2
    obtain ⟨a, vs, rfl, h1, h2⟩ := r1.sc_inv
    exact .inl ⟨a, rfl, ⟨vs, sqL_mono R1.sub h1⟩, k _ W1 R1 f1 (yl_list (fun W2 hF hs => sqL_mono hs (sqL_mono hF h1)) h2)⟩
  · cases e2
theorem mi_rg1 {p pos : Pos} (hg : Gl X "range") (hm : X.mg "range" = none) (ha : ME X a fa) (hs : starEach [a] X.env = [(false, eval a X.env)] := by rfl) : MI X tg (.Call (.Name "range" p) [a] [] pos) (iRg1 fa) := by
  obtain ⟨t, p, q⟩ := ha
  refine ⟨_, pi_range1 hg hm (pa_cons p pa_nil hs) hs, fun S ds S' h W s Rr R k => ?_⟩
  obtain ⟨⟨d1, S1⟩, e1, h⟩ := bind_some h
  simp only at h
  split at h
  · split at h
    · rename_i n c
      cases h
      refine q S _ _ e1 W s _ R fun v W1 R1 f1 r1 => ?_
      cases r1.int_inv
      unfold iRg1.B61 at c
      refine ⟨n, rfl, by omega, by omega, ?_⟩
      have := k (Itr 0 n.toNat) W1 R1 f1 yl_rng
      simpa using this
    · cases h
  · cases h
theorem mi_rg2 {p pos : Pos} (hg : Gl X "range") (hm : X.mg "range" = none) (ha : ME X a fa) (hb : ME X b fb) (hs : starEach [a, b] X.env = [(false, eval a X.env), (false, eval b X.env)] := by rfl) (hs2 : starEach [b] X.env = [(false, eval b X.env)] := by rfl)
    (hs3 : starEach [a, b] X.env = (false, eval a X.env) :: starEach [b] X.env := by rfl) (hs4 : starEach [b] X.env = (false, eval b X.env) :: starEach [] X.env := by rfl) :
    MI X tg (.Call (.Name "range" p) [a, b] [] pos) (iRg2 fa fb) := by
  obtain ⟨t, p, q⟩ := ha
  obtain ⟨t', p', q'⟩ := hb
  refine ⟨_, pi_range2 hg hm (pa_cons p (pa_cons p' pa_nil hs4) hs3) hs hs2, fun S ds S' h W s Rr R k => ?_⟩
  obtain ⟨⟨d1, S1⟩, e1, h⟩ := bind_some h
  obtain ⟨⟨d2, S2⟩, e2, h⟩ := bind_some h
  simp only at h
  split at h
  · split at h
    · rename_i c
      cases h
      refine q S _ _ e1 W s _ R fun v W1 R1 f1 r1 => ?_
      refine q' S1 _ _ e2 W1 s _ R1 fun v2 W2 R2 f2 r2 => ?_
      cases r1.int_inv
      cases r2.int_inv
      unfold iRg1.B61 at c
      exact ⟨_, _, rfl, ⟨by omega, by omega, by omega, by omega⟩, k _ W2 R2 (f1.trans f2) yl_rng⟩
    · cases h
  · cases h
end

/-! ### for, while -/
def forM (g : GF) (b : SF) : List D → Ms → Option (Fl × Ms)
  | [], S => some (.nx, S)
  | d :: ds, S => (g d S).bind fun S1 => (b S1).bind fun p => match p.1 with
    | .nx => forM g b ds p.2
    | .ct => forM g b ds p.2
    | .bk => some (.nx, p.2)
    | .rt v => some (.rt v, p.2)
def sFor (f : AF) (g : GF) (b : SF) : SF := fun S => (f S).bind fun p => forM g b p.1 p.2
def whileM (c : BF) (b : SF) : Nat → Ms → Option (Fl × Ms)
  | 0, _ => none
  | n + 1, S => (c S).bind fun p => if p.1 then (b p.2).bind fun q => match q.1 with
      | .nx => whileM c b n q.2
      | .ct => whileM c b n q.2
      | .bk => some (.nx, q.2)
      | .rt v => some (.rt v, q.2)
    else some (.nx, p.2)
def WMAX : Nat := 1000000
def sWhile (c : BF) (b : SF) : SF := whileM c b WMAX
section
variable {X : Cx} {tg it c : Expr} {body : List Stmt} {fi : AF} {g : GF} {fb : SF} {fc : BF} {pos : Pos}
theorem ms_for (hc : X.calm = true) (hi : MI X tg it fi) (hg : MG X tg g) (hb : MSs X body fb) (hp : PassesOwn (model X.prog X.w) X.A X.env X.xe := by exact PassesOwn.never)
    (hs : ∀ x, foldedSetIterable it X.env x = pure x := by intro _; rfl) : MS X (.For tg it body [] pos) (sFor fi g fb) := by
  obtain ⟨wi, pi, qi⟩ := hi
  obtain ⟨tgt, pg, qg⟩ := hg
  obtain ⟨tb, pb, qb⟩ := hb
  refine ⟨_, ps_for hp hc pi pg pb hs, fun S fl S' h W s D R k => ?_⟩
  obtain ⟨⟨ds, S1⟩, e1, h⟩ := bind_some h
  refine qi S ds S1 e1 W s _ R fun J W1 R1 f1 Y => ?_
  refine ⟨fun i m s2 H2 => m = ds.length - i ∧ i ≤ ds.length ∧ ∃ W2 S2, W2.H = H2 ∧ Rel X.K W2 S2 s2 ∧ Fr W1 S1.r s W2 S2.r s2 ∧ forM g fb (ds.drop i) S2 = some (fl, S'), ⟨ds.length, rfl, Nat.zero_le _, W1, S1, rfl, R1, .refl, h⟩, ?_⟩
  rintro i m s2 H2 ⟨rfl, hi, W2, S2, rfl, R2, f2, e2⟩
  by_cases hlt : i < ds.length
  · have ed : ds[i]? = some ds[i] := List.getElem?_eq_getElem hlt
    obtain ⟨go, yl⟩ := Y.go W2 S2 s2 R2 f2.fx f2.ix i _ ed
    rw [List.drop_eq_getElem_cons hlt] at e2
    obtain ⟨S3, e3, e2⟩ := bind_some e2
    obtain ⟨⟨fl1, S4⟩, e4, e2⟩ := bind_some e2
    refine .inr ⟨go, fun s3 H3 => i + 1 ≤ ds.length ∧ ∃ W3 S3, W3.H = H3 ∧ Rel X.K W3 S3 s3 ∧ Fr W1 S1.r s W3 S3.r s3 ∧ forM g fb (ds.drop (i + 1)) S3 = some (fl, S'), ?_, fun x H' y => ?_⟩
    · rintro s3 H3 ⟨hl, W3, S3, rfl, R3, f3, e5⟩
      exact ⟨_, by omega, rfl, hl, W3, S3, rfl, R3, f3, e5⟩
    · obtain ⟨W3, rfl, R3, f3, r3⟩ := yl x H' y
      refine qg _ S2 S3 e3 W3 s2 x _ R3 r3 fun W4 s4 R4 f4 => ?_
      refine qb S3 fl1 S4 e4 W4 s4 _ R4 fun W5 s5 R5 f5 => ?_
      have ff := ((f2.trans f3).trans f4).trans f5
      cases fl1 with
      | nx => exact ⟨hlt, W5, S4, rfl, R5, ff, e2⟩
      | ct => exact ⟨hlt, W5, S4, rfl, R5, ff, e2⟩
      | bk => cases e2; exact k W5 s5 R5 (f1.trans ff)
      | rt d => cases e2; exact k W5 s5 R5 (f1.trans ff)
  · have ei : i = ds.length := by omega
    subst ei
    rw [List.drop_length] at e2
    cases e2
    exact .inl ⟨Y.stop W2 _ s2 R2 f2.fx f2.ix, k W2 s2 R2 (f1.trans f2)⟩
theorem ms_while (hc : MT X c fc) (hb : MSs X body fb) (hp : PassesOwn (model X.prog X.w) X.A X.env X.xe := by exact PassesOwn.never) : MS X (.While c body [] pos) (sWhile fc fb) := by
  obtain ⟨tc, pc, qc⟩ := hc
  obtain ⟨tb, pb, qb⟩ := hb
  refine ⟨_, ps_while hp pc pb, fun S fl S' h W s D R k => ?_⟩
  refine ⟨fun m s2 H2 => ∃ W2 S2, W2.H = H2 ∧ Rel X.K W2 S2 s2 ∧ Fr W S.r s W2 S2.r s2 ∧ whileM fc fb m S2 = some (fl, S'), ⟨WMAX, W, S, rfl, R, .refl, h⟩, ?_⟩
  rintro m s2 H2 ⟨W2, S2, rfl, R2, f2, e2⟩
  cases m with
  | zero => cases e2
  | succ n =>
    obtain ⟨⟨b, S3⟩, e3, e2⟩ := bind_some e2
    refine qc S2 _ _ e3 W2 s2 _ R2 fun W3 R3 f3 => ?_
    cases b with
    | true =>
      obtain ⟨⟨fl1, S4⟩, e4, e2⟩ := bind_some e2
      refine ⟨fun s4 H4 => ∃ W2 S2, W2.H = H4 ∧ Rel X.K W2 S2 s4 ∧ Fr W S.r s W2 S2.r s4 ∧ whileM fc fb n S2 = some (fl, S'), fun s4 H4 z => ⟨n, Nat.lt_succ_self n, z⟩, ?_⟩
      refine qb S3 fl1 S4 e4 W3 s2 _ R3 fun W5 s5 R5 f5 => ?_
      have ff := (f2.trans f3).trans f5
      cases fl1 with
      | nx => exact ⟨W5, S4, rfl, R5, ff, e2⟩
      | ct => exact ⟨W5, S4, rfl, R5, ff, e2⟩
      | bk => cases e2; exact k W5 s5 R5 ff
      | rt d => cases e2; exact k W5 s5 R5 ff
    | false => cases e2; exact k W3 s2 R3 (f2.trans f3)
end

/-! ### defs -/
abbrev FF := List D → List Cell → Option (D × List Cell)
def fnM (N : Nat) (b : SF) : FF := fun ds m => (b ⟨ds.map Slot.val ++ List.replicate (N - ds.length) .emp, m⟩).bind fun p => match p.1 with
  | .rt d => some (d, p.2.m)
  | .nx => some (.non, p.2.m)
  | _ => none
def spM (K : PySem.W.Frag) (n : Nat) (f : FF) : Sp := fun vs H Q _ => vs.length = n ∧ ∃ W ds m d m', W.H = H ∧ Rel K W ⟨[], m⟩ [] ∧ RVs K W.F W.io vs ds ∧ f ds m = some (d, m') ∧
  ∀ v W', Rel K W' ⟨[], m'⟩ [] → Fr W [] [] W' [] [] → RV K W'.F W'.io v d → Q v W'.H
def eFn (n : Nat) (f : FF) (a : AF) : EF := fun S => (a S).bind fun p => if p.1.length = n then (f p.1 p.2.m).bind fun q => some (q.1, { p.2 with m := q.2 }) else none
section
variable {K : PySem.W.Frag} {W W' : Wd} {S : Ms} {s : L2.St} {m : List Cell}
theorem Rel.bare (R : Rel K W S s) : Rel K W ⟨[], S.m⟩ [] := ⟨R.sub, R.nd, R.nf, R.len, R.cells, rfl, fun i d h => by simp at h, fun i c h => by simp at h, fun i j c c' a h => by simp at h⟩
theorem not_own {b : Addr} : ¬ Own [] [] b := fun ⟨i, c, h, _⟩ => by simp at h
/-- behind a call: the caller's slots are as they were -/
theorem Rel.back (R : Rel K W S s) (R' : Rel K W' ⟨[], m⟩ []) (f : Fr W [] [] W' [] []) : Rel K W' { S with m := m } s ∧ Fr W S.r s W' S.r s := by
  have mi : ∀ {b}, Mine W [] [] b ↔ (∃ o, W.F b = some o) ∨ b ∈ W.io := fun {b} => ⟨fun h => by
    rcases h with h | h | h
    · exact .inl h
    · exact .inr h
    · exact absurd h not_own, fun h => by
    rcases h with h | h
    · exact .inl h
    · exact .inr (.inl h)⟩
  have keep : ∀ (i : Nat) (c : Cell) (a : Addr), S.r[i]? = some (Slot.own c) → s[i]? = some (some (V.ref a)) → W.F a = none → a ∉ W.io → CR K W a c → W'.F a = none ∧ a ∉ W'.io ∧ CR K W' a c := fun i c a h1 h2 n1 n2 q => by
    obtain ⟨o, ho⟩ := q.there
    obtain ⟨g1, g2⟩ := f.ot a o ho (fun z => by
      rcases mi.mp z with ⟨u, z⟩ | z
      · rw [n1] at z; cases z
      · exact n2 z)
    refine ⟨?_, fun z => g2 (.inr (.inl z)), q.mono f.fx f.ix fun o' h' => ?_⟩
    · cases e : W'.F a with
      | none => rfl
      | some u => exact absurd (.inl ⟨u, e⟩) g2
    · rw [ho] at h'; cases h'; exact g1
  refine ⟨⟨R'.sub, R'.nd, R'.nf, R'.len, R'.cells, R.sl, fun i d h => ?_, fun i c h => ?_, R.odis⟩, ⟨f.fx, f.ix, fun b o h n => ?_, f.hp⟩⟩
  · obtain ⟨v, e, q⟩ := R.slots i d h
    exact ⟨v, e, q.up f⟩
  · obtain ⟨a, e, n1, n2, q⟩ := R.owns i c h
    obtain ⟨g1, g2, g3⟩ := keep i c a h e n1 n2 q
    exact ⟨a, e, g1, g2, g3⟩
  · obtain ⟨g1, g2⟩ := f.ot b o h fun z => n (by
      rcases mi.mp z with z | z
      · exact .inl z
      · exact .inr (.inl z))
    refine ⟨g1, fun z => ?_⟩
    rcases z with z | z | z
    · exact g2 (.inl z)
    · exact g2 (.inr (.inl z))
    · exact n (.inr (.inr z))
theorem start_rel {n : Nat} {vs : List V} {ds : List D} {N : List Str} (R : Rel K W ⟨[], m⟩ []) (r : RVs K W.F W.io vs ds) : Rel K W ⟨ds.map Slot.val ++ List.replicate (N.length - ds.length) .emp, m⟩ (L2.start N vs) := by
  have own : ∀ i c, (ds.map Slot.val ++ List.replicate (N.length - ds.length) Slot.emp)[i]? = some (Slot.own c) → False := fun i c h => by
    have := List.mem_of_getElem? h
    simp at this
  refine ⟨R.sub, R.nd, R.nf, R.len, R.cells, ?_, fun i d h => ?_, fun i c h => absurd h (own i c), fun i j c c' a h => absurd h (own i c)⟩
  · unfold L2.start
    simp [r.length]
  · by_cases hi : i < ds.length
    · rw [List.getElem?_append_left (by simpa using hi), List.getElem?_map] at h
      cases e : ds[i]? with
      | none => rw [e] at h; cases h
      | some d' =>
        rw [e] at h; cases h
        obtain ⟨v, ev, rv⟩ := r.get e
        refine ⟨v, ?_, rv⟩
        unfold L2.start
        rw [List.getElem?_append_left (by rw [List.length_map, r.length]; exact hi), List.getElem?_map, ev]
        rfl
    · rw [List.getElem?_append_right (by simpa using Nat.le_of_not_lt hi)] at h
      have := List.mem_of_getElem? h
      simp at this
theorem end_rel (R : Rel K W S s) : Rel K W ⟨[], S.m⟩ [] := R.bare
theorem end_fr {W0 : Wd} {S0 : Ms} {s0 : L2.St} (h0 : ∀ b, ¬ Own S0.r s0 b) (f : Fr W0 S0.r s0 W S.r s) : Fr W0 [] [] W [] [] := by
  refine ⟨f.fx, f.ix, fun b o h n => ?_, f.hp⟩
  obtain ⟨g1, g2⟩ := f.ot b o h fun z => n (by
    rcases z with z | z | z
    · exact .inl z
    · exact .inr (.inl z)
    · exact absurd z (h0 b))
  refine ⟨g1, fun z => g2 ?_⟩
  rcases z with z | z | z
  · exact .inl z
  · exact .inr (.inl z)
  · exact absurd z not_own
end
section
variable {P : Program} {w : World} {K : PySem.W.Frag} {mg : Str → Option Value} {base : Heap}
/-- THE RULE: a def of the text answers as its machine function -/
theorem fn_ok {x qual : Str} {st : Stmt} {f : Addr} {fd : FuncData} {N ps : List Str} {k : Nat} {b : SF} (F : Fun K x qual st f fd) (S : FnScope N ps (defScope st))
    (hb : ∀ (cdv : Value) (A : Around) (outer : List Env) (s : Shared) (H : Hp) (E : XK), Room k (A.deeper (PyProof.Rows.envOfC qual (defScope st) s.heap.objs.size f cdv)) →
      MSs (cxOf CX0 P w K mg base N qual (defScope st) f cdv A outer s H E).nox (defBody st) b) : FnOk P w K mg base CX0 (k + 1) f fd ps (spM K ps.length (fnM N.length b)) := by
  refine F.ok S (fun vs H Q E h => h.1) (fun cdv A outer s H vs Q E hr h => ?_)
  obtain ⟨hl, W, ds, m, d, m', rfl, R, r, e, kk⟩ := h
  obtain ⟨t, p, q⟩ := hb cdv A outer s W.H E hr
  refine ⟨t, p, ?_⟩
  unfold fnM at e
  obtain ⟨⟨fl, S'⟩, e1, e⟩ := bind_some e
  have own : ∀ b, ¬ Own (ds.map Slot.val ++ List.replicate (N.length - ds.length) Slot.emp) (L2.start N vs) b := fun b ⟨i, c, h, _⟩ => by
    have := List.mem_of_getElem? h
    simp at this
  refine q _ fl S' e1 W (L2.start N vs) _ (start_rel (n := 0) R r) fun W' s' R' f' => ?_
  have f0 := end_fr (S0 := ⟨ds.map Slot.val ++ List.replicate (N.length - ds.length) Slot.emp, m⟩) own f'
  cases fl with
  | nx => cases e; exact kk .non W' R'.bare f0 .non
  | rt d => cases e; exact fun v rv => kk v W' R'.bare f0 rv
  | bk => cases e
  | ct => cases e
end
section
variable {X : Cx} {CX : CXT} {k n : Nat} {f : Addr} {fd : FuncData} {ps : List Str} {ff : FF} {E : XK} {x : Str} {p pos : Pos} {e : Expr} {es : List Expr} {fa : AF}
theorem te_fn {K : PySem.W.Frag} {t : TA} (q : TAok K t fa) : TEok K (tCall (spM K n ff) [] E t) (eFn n ff fa) := by
  intro S d S' h W s Q R kk
  obtain ⟨⟨ds, S1⟩, e1, h⟩ := bind_some h
  simp only at h
  split at h
  · rename_i hn
    obtain ⟨⟨d1, m1⟩, e2, h⟩ := bind_some h
    cases h
    refine q S _ _ e1 W s _ R fun vs W1 R1 f1 r1 => ?_
    refine ⟨by rw [List.append_nil, r1.length]; exact hn, W1, ds, S1.m, _, m1, rfl, R1.bare, by rw [List.append_nil]; exact r1, e2, fun v W2 R2 f2 r2 => ?_⟩
    obtain ⟨R3, f3⟩ := R1.back R2 f2
    exact kk v W2 R3 (f1.trans f3) r2
  · cases h
theorem me_fn (G : FnOk X.prog X.w X.K X.mg X.base CX0 k f fd ps (spM X.K n ff)) (hr : Room k X.A) (hm : X.mg x = some (.ref f)) (hk : PySem.W.keepIn X.K (.ref f) = true) (hb : Binds X.K fd ps []) (ha : MA X (e :: es) fa)
    (hg : Gl X x := by rfl) (hdb : (x == ("__debug__" : Str)) = false := by decide) (he : starEach (e :: es) X.env = (false, eval e X.env) :: starEach es X.env := by rfl) (hpl : (backTo pos (starEach es X.env)).any (·.1) = false := by rfl) :
    ME X (.Call (.Name x p) (e :: es) [] pos) (eFn n ff fa) := by
  obtain ⟨t, p, q⟩ := ha
  exact ⟨_, pe_call G hr hg hm hk hb .nil pass0 p hdb he hpl, te_fn q⟩
theorem me_fn0 (G : FnOk X.prog X.w X.K X.mg X.base CX0 k f fd ps (spM X.K n ff)) (hr : Room k X.A) (hm : X.mg x = some (.ref f)) (hk : PySem.W.keepIn X.K (.ref f) = true) (hb : Binds X.K fd ps [])
    (hg : Gl X x := by rfl) (hdb : (x == ("__debug__" : Str)) = false := by decide) : ME X (.Call (.Name x p) [] [] pos) (eFn n ff aNil) :=
  ⟨_, pe_call0 G hr hg hm hk hb .nil pass0 hdb, te_fn (fun S d S' h W s Q R k => by cases h; exact k _ W R .refl .nil)⟩
/-- the same answers by another function -/
theorem spM_imp {K : PySem.W.Frag} {f g : FF} (h : ∀ ds m d m', g ds m = some (d, m') → f ds m = some (d, m')) : ∀ vs H Q E, spM K n g vs H Q E → spM K n f vs H Q E := fun vs H Q E ⟨hl, W, ds, m, d, m', e, R, r, q, k⟩ => ⟨hl, W, ds, m, d, m', e, R, r, h _ _ _ _ q, k⟩
end
end M

/-! M4: list comprehensions. -/
namespace M
open PySem PySem.Spec L2

def wipeR (r : List Slot) : List Nat → List Slot
  | [] => r
  | v :: vs => (wipeR r vs).set v .emp
/-- the block's own slots as they were -/
def restR (r0 r : List Slot) : List Nat → List Slot
  | [] => r
  | v :: vs => match r0[v]? with
    | some x => (restR r0 r vs).set v x
    | none => restR r0 r vs
def MTs (X : Cx) (cs : List Expr) (f : BF) : Prop := ∃ t, PTs X cs t ∧ TTok X.K t f
def bYes : BF := fun S => some (true, S)
def lcM (g : GF) (t : BF) (f : EF) (vs : List Nat) : List D → List D → Ms → Option (List D × Ms)
  | [], acc, S => some (acc, S)
  | d :: ds, acc, S => (g d { S with r := wipeR S.r vs }).bind fun S1 => (t S1).bind fun p => if p.1 then (f p.2).bind fun q => if acc.length < LIM then lcM g t f vs ds (acc ++ [q.1]) { q.2 with r := restR S.r q.2.r vs } else none
    else lcM g t f vs ds acc { p.2 with r := restR S.r p.2.r vs }
def cLc (fi : AF) (g : GF) (t : BF) (f : EF) (vs : List Nat) : CF := fun S => (fi S).bind fun p => (lcM g t f vs p.1 [] p.2).bind fun q => some (.lst q.1, q.2)

section
variable {K : PySem.W.Frag} {W W' : Wd} {S S' : Ms} {s s' : L2.St}
theorem wipeR_len (r : List Slot) : ∀ vs, (wipeR r vs).length = r.length
  | [] => rfl
  | v :: vs => by unfold wipeR; rw [List.length_set, wipeR_len r vs]
theorem restR_len (r0 r : List Slot) : ∀ vs, (restR r0 r vs).length = r.length
  | [] => rfl
  | v :: vs => by
    unfold restR
    split
    · rw [List.length_set, restR_len r0 r vs]
    · exact restR_len r0 r vs
theorem wipeR_get {r : List Slot} {i : Nat} {x : Slot} : ∀ {vs : List Nat}, (wipeR r vs)[i]? = some x → x = .emp ∨ (i ∉ vs ∧ r[i]? = some x)
  | [], h => .inr ⟨by simp, h⟩
  | v :: vs, h => by
    unfold wipeR at h
    by_cases e : v = i
    · subst e
      by_cases hv : v < (wipeR r vs).length
      · rw [List.getElem?_set_self hv] at h; cases h; exact .inl rfl
      · rw [List.getElem?_eq_none (by simpa using hv)] at h; cases h
    · rw [List.getElem?_set_ne e] at h
      rcases wipeR_get h with h | ⟨h1, h2⟩
      · exact .inl h
      · exact .inr ⟨by simp [Ne.symm e, h1], h2⟩
theorem restR_get {r0 r : List Slot} {i : Nat} (hl : r.length = r0.length) : ∀ {vs : List Nat}, (restR r0 r vs)[i]? = if i ∈ vs then r0[i]? else r[i]?
  | [] => by simp [restR]
  | v :: vs => by
    unfold restR
    have ih := restR_get (r0 := r0) (r := r) (i := i) hl (vs := vs)
    by_cases e : v = i
    · subst e
      rw [if_pos (by simp)]
      split
      · rename_i x hx
        rw [hx, List.getElem?_set_self (by rw [restR_len, hl]; exact (List.getElem?_eq_some_iff.mp hx).1)]
      · rename_i hx
        rw [ih, hx]
        split
        · rfl
        · rw [List.getElem?_eq_none_iff] at hx ⊢; omega
    · have e2 : (i ∈ v :: vs) ↔ i ∈ vs := by simp [Ne.symm e]
      split
      · rw [List.getElem?_set_ne e, ih]; simp [e2]
      · rw [ih]; simp [e2]
theorem wipe_get {i : Nat} : ∀ {vs : List Nat}, i ∉ vs → (wipe s vs)[i]? = s[i]?
  | [], _ => rfl
  | v :: vs, h => by
    unfold wipe
    have h1 : v ≠ i := fun e => h (by simp [e])
    rw [List.getElem?_set_ne h1]
    exact wipe_get fun z => h (by simp [z])
theorem Rel.wipe (R : Rel K W S s) (vs : List Nat) : Rel K W { S with r := wipeR S.r vs } (L2.wipe s vs) ∧ Fr W S.r s W (wipeR S.r vs) (L2.wipe s vs) := by
  have own : ∀ (i : Nat) (c : Cell), (wipeR S.r vs)[i]? = some (Slot.own c) → i ∉ vs ∧ S.r[i]? = some (Slot.own c) := fun i c h => by
    rcases wipeR_get h with h | h
    · cases h
    · exact h
  refine ⟨⟨R.sub, R.nd, R.nf, R.len, R.cells, by rw [wipe_length, wipeR_len, R.sl], fun i d h => ?_, fun i c h => ?_, fun i j c c' a h1 h2 h3 h4 => ?_⟩, ⟨fun _ _ h => h, List.prefix_refl _, fun b o h n => ⟨h, fun m => n ?_⟩, fun _ h => h⟩⟩
  · rcases wipeR_get h with h | ⟨h1, h2⟩
    · cases h
    · obtain ⟨v, e, q⟩ := R.slots i d h2
      exact ⟨v, by rw [wipe_get h1]; exact e, q⟩
  · obtain ⟨h1, h2⟩ := own i c h
    obtain ⟨a, e, q⟩ := R.owns i c h2
    exact ⟨a, by rw [wipe_get h1]; exact e, q⟩
  · obtain ⟨i1, i2⟩ := own i c h1
    obtain ⟨j1, j2⟩ := own j c' h2
    rw [wipe_get i1] at h3
    rw [wipe_get j1] at h4
    exact R.odis i j c c' a i2 j2 h3 h4
  · rcases m with m | m | ⟨i, c, m1, m2⟩
    · exact .inl m
    · exact .inr (.inl m)
    · obtain ⟨i1, i2⟩ := own i c m1
      rw [wipe_get i1] at m2
      exact .inr (.inr ⟨i, c, i2, m2⟩)
theorem wipe_at {i : Nat} {vs : List Nat} (e : L2.wipe s' vs = L2.wipe s vs) (h : i ∉ vs) : s'[i]? = s[i]? := by
  rw [← wipe_get (s := s') h, ← wipe_get (s := s) h, e]
theorem Rel.rest {vs : List Nat} (R : Rel K W S s) (R' : Rel K W' S' s') (f : Fr W (wipeR S.r vs) (L2.wipe s vs) W' S'.r s') (e : L2.wipe s' vs = L2.wipe s vs) :
    Rel K W' { S' with r := restR S.r S'.r vs } s ∧ Fr W S.r s W' (restR S.r S'.r vs) s := by
  have hlen : S'.r.length = S.r.length := by
    have := congrArg List.length e
    rw [wipe_length, wipe_length] at this
    rw [← R'.sl, ← R.sl, this]
  have get : ∀ (i : Nat), (restR S.r S'.r vs)[i]? = if i ∈ vs then S.r[i]? else S'.r[i]? := fun i => restR_get hlen
  have keep : ∀ (i : Nat) (c : Cell) (a : Addr), i ∈ vs → S.r[i]? = some (Slot.own c) → s[i]? = some (some (V.ref a)) → W'.F a = none ∧ a ∉ W'.io ∧ ¬ Own S'.r s' a ∧ CR K W' a c := fun i c a hi h1 h2 => by
    obtain ⟨a', e1, n1, n2, q⟩ := R.owns i c h1
    rw [h2] at e1; cases e1
    obtain ⟨o, ho⟩ := q.there
    obtain ⟨g1, g2⟩ := f.ot a o ho (fun z => by
      rcases z with ⟨u, z⟩ | z | ⟨j, c', z1, z2⟩
      · rw [n1] at z; cases z
      · exact n2 z
      · rcases wipeR_get z1 with z | ⟨z3, z4⟩
        · cases z
        · rw [wipe_get z3] at z2
          have := R.odis i j c c' a h1 z4 h2 z2
          subst this
          exact z3 hi)
    refine ⟨?_, fun z => g2 (.inr (.inl z)), fun z => g2 (.inr (.inr z)), q.mono f.fx f.ix fun o' h' => ?_⟩
    · cases e : W'.F a with
      | none => rfl
      | some u => exact absurd (.inl ⟨u, e⟩) g2
    · rw [ho] at h'; cases h'; exact g1
  refine ⟨⟨R'.sub, R'.nd, R'.nf, R'.len, R'.cells, by show s.length = (restR S.r S'.r vs).length; rw [restR_len, hlen, R.sl], fun i d h => ?_, fun i c h => ?_, fun i j c c' a h1 h2 h3 h4 => ?_⟩, ⟨f.fx, f.ix, fun b o h n => ?_, f.hp⟩⟩
  · have h : (restR S.r S'.r vs)[i]? = some (Slot.val d) := h
    rw [get] at h
    split at h
    · obtain ⟨v, e1, q⟩ := R.slots i d h
      exact ⟨v, e1, q.mono f.fx f.ix⟩
    · rename_i hi
      obtain ⟨v, e1, q⟩ := R'.slots i d h
      exact ⟨v, by rw [← wipe_at e hi]; exact e1, q⟩
  · have h : (restR S.r S'.r vs)[i]? = some (Slot.own c) := h
    rw [get] at h
    split at h
    · rename_i hi
      obtain ⟨a, e1, _⟩ := R.owns i c h
      obtain ⟨g1, g2, _, g3⟩ := keep i c a hi h e1
      exact ⟨a, e1, g1, g2, g3⟩
    · rename_i hi
      obtain ⟨a, e1, q⟩ := R'.owns i c h
      exact ⟨a, by rw [← wipe_at e hi]; exact e1, q⟩
  · have h1 : (restR S.r S'.r vs)[i]? = some (Slot.own c) := h1
    have h2 : (restR S.r S'.r vs)[j]? = some (Slot.own c') := h2
    rw [get] at h1 h2
    split at h1
    · rename_i hi
      split at h2
      · exact R.odis i j c c' a h1 h2 h3 h4
      · rename_i hj
        obtain ⟨_, _, g, _⟩ := keep i c a hi h1 h3
        exact absurd ⟨j, c', h2, by rw [wipe_at e hj]; exact h4⟩ g
    · rename_i hi
      split at h2
      · rename_i hj
        obtain ⟨_, _, g, _⟩ := keep j c' a hj h2 h4
        exact absurd ⟨i, c, h1, by rw [wipe_at e hi]; exact h3⟩ g
      · rename_i hj
        exact R'.odis i j c c' a h1 h2 (by rw [wipe_at e hi]; exact h3) (by rw [wipe_at e hj]; exact h4)
  · obtain ⟨g1, g2⟩ := f.ot b o h fun z => n (by
      rcases z with z | z | ⟨i, c, z1, z2⟩
      · exact .inl z
      · exact .inr (.inl z)
      · rcases wipeR_get z1 with z | ⟨z3, z4⟩
        · cases z
        · rw [wipe_get z3] at z2
          exact .inr (.inr ⟨i, c, z4, z2⟩))
    refine ⟨g1, fun z => ?_⟩
    rcases z with z | z | ⟨i, c, z1, z2⟩
    · exact g2 (.inl z)
    · exact g2 (.inr (.inl z))
    · rw [get] at z1
      split at z1
      · exact n (.inr (.inr ⟨i, c, z1, z2⟩))
      · rename_i hi
        exact g2 (.inr (.inr ⟨i, c, z1, by rw [wipe_at e hi]; exact z2⟩))
/-- a new object that stands apart stays so -/
theorem New.keep {W0 W1 : Wd} {S0 S1 : Ms} {s0 s1 : L2.St} {p : Addr} {c : Cell} (n : New K W0 S0 s0 p c) (f : Fr W0 S0.r s0 W1 S1.r s1) : New K W1 S1 s1 p c := by
  obtain ⟨o, ho⟩ := n.cr.there
  obtain ⟨g1, g2⟩ := f.ot p o ho (fun z => by
    rcases z with ⟨u, z⟩ | z | z
    · rw [n.nf] at z; cases z
    · exact n.ni z
    · exact n.no z)
  refine ⟨?_, fun z => g2 (.inr (.inl z)), fun z => g2 (.inr (.inr z)), n.cr.mono f.fx f.ix fun o' h' => ?_⟩
  · cases e : W1.F p with
    | none => rfl
    | some u => exact absurd (.inl ⟨u, e⟩) g2
  · rw [ho] at h'; cases h'; exact g1
/-- it is written -/
theorem Rel.wrApart (R : Rel K W S s) {p : Addr} {c c' : Cell} {o : HO} (n : New K W S s p c) (hc : CR K (W.wr p o) p c') : Rel K (W.wr p o) S s ∧ New K (W.wr p o) S s p c' := by
  have hF : ∀ b u, W.F b = some u → (W.wr p o).F b = some u := fun _ _ h => h
  have hio : W.io <+: (W.wr p o).io := List.prefix_refl _
  have hH : ∀ b, b ≠ p → ∀ u, W.H b = some u → (W.wr p o).H b = some u := fun b nb u h => by
    show upd W.H p o b = some u
    rw [upd_ne nb]; exact h
  refine ⟨⟨fun b u h => hH b (ne_of_none h n.nf) u (R.sub b u h), R.nd, R.nf, R.len, fun k c1 b e1 e2 => (R.cells k c1 b e1 e2).mono hF hio (hH b fun z => n.ni (by rw [← z]; exact List.mem_of_getElem? e2)), R.sl, fun i d h => R.slots i d h, fun i c1 h => ?_, R.odis⟩, ⟨n.nf, n.ni, n.no, hc⟩⟩
  obtain ⟨a, e, m1, m2, q⟩ := R.owns i c1 h
  exact ⟨a, e, m1, m2, q.mono hF hio (hH a fun z => n.no ⟨i, c1, h, by rw [← z]; exact e⟩)⟩
end

/-- a target that stores into the slots vs alone -/
structure KG (vs : List Nat) (t : TG) : Prop where
  mono : ∀ v s H (Q Q' : L2.St → Hp → Prop), (∀ s H, Q s H → Q' s H) → t v s H Q → t v s H Q'
  keep : ∀ v s H (Q : L2.St → Hp → Prop), t v s H Q → t v s H fun s2 H2 => L2.wipe s2 vs = L2.wipe s vs ∧ Q s2 H2
structure KGs (vs : List Nat) (t : TGs) : Prop where
  mono : ∀ v s H (Q Q' : L2.St → Hp → Prop), (∀ s H, Q s H → Q' s H) → t v s H Q → t v s H Q'
  keep : ∀ v s H (Q : L2.St → Hp → Prop), t v s H Q → t v s H fun s2 H2 => L2.wipe s2 vs = L2.wipe s vs ∧ Q s2 H2
theorem wipe_set {i : Nat} {x : Option V} : ∀ {vs : List Nat} {s : L2.St}, i ∈ vs → L2.wipe (s.set i x) vs = L2.wipe s vs
  | [], _, h => by simp at h
  | v :: vs, s, h => by
    unfold L2.wipe
    by_cases e : i ∈ vs
    · rw [wipe_set e]
    · have ev : v = i := by
        rcases List.mem_cons.mp h with h | h
        · exact h.symm
        · exact absurd h e
      subst ev
      apply List.ext_getElem?
      intro j
      by_cases hj : v = j
      · subst hj
        by_cases hl : v < s.length
        · rw [List.getElem?_set_self (by rw [wipe_length, List.length_set]; exact hl), List.getElem?_set_self (by rw [wipe_length]; exact hl)]
        · rw [List.getElem?_eq_none (by rw [List.length_set, wipe_length, List.length_set]; omega), List.getElem?_eq_none (by rw [List.length_set, wipe_length]; omega)]
      · rw [List.getElem?_set_ne hj, List.getElem?_set_ne hj]
        have go : ∀ (ws : List Nat), (L2.wipe (s.set v x) ws)[j]? = (L2.wipe s ws)[j]? := fun ws => by
          induction ws with
          | nil => exact List.getElem?_set_ne hj
          | cons w ws ih =>
            unfold L2.wipe
            by_cases hw : w = j
            · subst hw
              by_cases hl : w < s.length
              · rw [List.getElem?_set_self (by rw [wipe_length, List.length_set]; exact hl), List.getElem?_set_self (by rw [wipe_length]; exact hl)]
              · rw [List.getElem?_eq_none (by rw [List.length_set, wipe_length, List.length_set]; omega), List.getElem?_eq_none (by rw [List.length_set, wipe_length]; omega)]
            · rw [List.getElem?_set_ne hw, List.getElem?_set_ne hw, ih]
        exact go vs
theorem wipe_wipe {vs : List Nat} {s : L2.St} : L2.wipe (L2.wipe s vs) vs = L2.wipe s vs := by
  have go : ∀ (ws : List Nat), (∀ x ∈ ws, x ∈ vs) → L2.wipe (L2.wipe s ws) vs = L2.wipe s vs := fun ws => by
    induction ws with
    | nil => intro _; rfl
    | cons w ws ih =>
      intro h
      show L2.wipe ((L2.wipe s ws).set w none) vs = _
      rw [wipe_set (h w (by simp)), ih fun x hx => h x (by simp [hx])]
  exact go vs fun _ h => h
theorem kg_name {i : Nat} {vs : List Nat} (h : i ∈ vs) : KG vs (gName i) := ⟨fun v s H Q Q' m q => m _ _ q, fun v s H Q q => ⟨wipe_set h, q⟩⟩
theorem kgs_nil {vs : List Nat} : KGs vs gNil := ⟨fun v s H Q Q' m q => ⟨q.1, m _ _ q.2⟩, fun v s H Q q => ⟨q.1, rfl, q.2⟩⟩
theorem kgs_cons {vs : List Nat} {t : TG} {u : TGs} (h1 : KG vs t) (h2 : KGs vs u) : KGs vs (gCons t u) :=
  ⟨fun v s H Q Q' m ⟨a, r, e, q⟩ => ⟨a, r, e, h1.mono _ _ _ _ _ (fun s H q => h2.mono _ _ _ _ _ m q) q⟩,
   fun v s H Q ⟨a, r, e, q⟩ => ⟨a, r, e, h1.mono _ _ _ _ _ (fun s1 H1 z => h2.mono _ _ _ _ _ (fun s2 H2 z2 => ⟨z2.1.trans z.1, z2.2⟩) (h2.keep _ _ _ _ z.2)) (h1.keep _ _ _ _ q)⟩⟩
theorem kg_tup {K : PySem.W.Frag} {n : Nat} {vs : List Nat} {u : TGs} (h : KGs vs u) : KG vs (gTup K n u) :=
  ⟨fun v s H Q Q' m ⟨a, xs, e, h1, h2, q⟩ => ⟨a, xs, e, h1, h2, h.mono _ _ _ _ _ m q⟩, fun v s H Q ⟨a, xs, e, h1, h2, q⟩ => ⟨a, xs, e, h1, h2, h.keep _ _ _ _ q⟩⟩
/-- such a target, with its function -/
def MGk (X : Cx) (vs : List Nat) (tg : Expr) (g : GF) : Prop := ∃ t, PG X tg t ∧ TGok X.K t g ∧ KG vs t

theorem tf_lc {K : PySem.W.Frag} {wi : TI} {tg : TG} {tt : TT} {te : TE} {vs : List Nat} {fi : AF} {g : GF} {ft : BF} {fe : EF} (qi : TIok K wi fi) (qg : TGok K tg g) (qt : TTok K tt ft) (qe : TEok K te fe)
    (hw : KG vs tg) : TFok K (tLc wi tg tt te vs) (cLc fi g ft fe vs) := by
  intro S c S' h W s Q R k
  obtain ⟨⟨ds, S1⟩, e1, h⟩ := bind_some h
  obtain ⟨⟨acc, S2⟩, e2, h⟩ := bind_some h
  cases h
  refine qi S ds S1 e1 W s _ R fun J W1 R1 f1 Y => ?_
  intro A hA
  obtain ⟨R1', f1', n1⟩ := R1.newLst (ds := []) hA .nil
  have hA0 : W.H A = none := f1.hp A hA
  refine ⟨fun i m H2 => m = ds.length - i ∧ i ≤ ds.length ∧ ∃ W2 S3 acc2, W2.H = H2 ∧ Rel K W2 S3 s ∧ Fr W1 S1.r s W2 S3.r s ∧ New K W2 S3 s A (.lst acc2) ∧ lcM g ft fe vs (ds.drop i) acc2 S3 = some (acc, S2), ⟨ds.length, rfl, Nat.zero_le _, _, S1, [], rfl, R1', f1', n1, e2⟩, ?_⟩
  rintro i m H2 ⟨rfl, hi, W2, S3, acc2, rfl, R2, f2, n2, e3⟩
  by_cases hlt : i < ds.length
  · have ed : ds[i]? = some ds[i] := List.getElem?_eq_getElem hlt
    obtain ⟨go, yl⟩ := Y.go W2 S3 s R2 f2.fx f2.ix i _ ed
    rw [List.drop_eq_getElem_cons hlt] at e3
    obtain ⟨S4, e4, e3⟩ := bind_some e3
    obtain ⟨⟨b, S5⟩, e5, e3⟩ := bind_some e3
    refine .inr ⟨go, fun H3 => i + 1 ≤ ds.length ∧ ∃ W3 S6 acc3, W3.H = H3 ∧ Rel K W3 S6 s ∧ Fr W1 S1.r s W3 S6.r s ∧ New K W3 S6 s A (.lst acc3) ∧ lcM g ft fe vs (ds.drop (i + 1)) acc3 S6 = some (acc, S2), ?_, fun x H' y => ?_⟩
    · rintro H3 ⟨hl, W3, S6, acc3, rfl, z⟩
      exact ⟨_, by omega, rfl, hl, W3, S6, acc3, rfl, z⟩
    · obtain ⟨W3, rfl, R3, f3, r3⟩ := yl x H' y
      have n3 := n2.keep (S1 := S3) f3
      obtain ⟨Rw, fw⟩ := R3.wipe vs
      refine hw.mono _ _ _ _ _ (fun s2 H2 z => z) (hw.mono _ _ _ (fun s2 H2 => L2.wipe s2 vs = L2.wipe (L2.wipe s vs) vs ∧ (L2.wipe s2 vs = L2.wipe s vs → tt s2 H2 fun b H3 => if b = true then te s2 H3 fun y H4 => ∃ acc, H4 A = some (.lst acc) ∧ acc.length < sizeLine ∧ (i + 1 ≤ ds.length ∧ ∃ W3 S6 acc3, W3.H = upd H4 A (.lst (acc ++ [y])) ∧ Rel K W3 S6 s ∧ Fr W1 S1.r s W3 S6.r s ∧ New K W3 S6 s A (.lst acc3) ∧ lcM g ft fe vs (ds.drop (i + 1)) acc3 S6 = some _) else (i + 1 ≤ ds.length ∧ ∃ W3 S6 acc3, W3.H = H3 ∧ Rel K W3 S6 s ∧ Fr W1 S1.r s W3 S6.r s ∧ New K W3 S6 s A (.lst acc3) ∧ lcM g ft fe vs (ds.drop (i + 1)) acc3 S6 = some _))) _ (fun s2 H2 z => ⟨z.1.trans wipe_wipe, z.2 (z.1.trans wipe_wipe)⟩) (hw.keep _ _ _ _ ?_))
      refine qg _ _ S4 e4 W3 _ x _ Rw r3 fun W4 s4 R4 f4 hs4 => ?_
      refine qt S4 b S5 e5 W4 s4 _ R4 fun W5 R5 f5 => ?_
      have f45 := f4.trans f5
      cases b with
      | false =>
        rw [if_neg Bool.false_ne_true]
        obtain ⟨R6, f6⟩ := R3.rest R5 f45 hs4
        exact ⟨hlt, W5, _, acc2, rfl, R6, (f2.trans f3).trans f6, n3.keep (S1 := { S5 with r := restR S3.r S5.r vs }) f6, e3⟩
      | true =>
        rw [if_pos rfl]
        rw [if_pos rfl] at e3
        obtain ⟨⟨d, S6⟩, e6, e3⟩ := bind_some e3
        simp only at e3
        split at e3
        · rename_i hlim
          refine qe S5 d S6 e6 W5 s4 _ R5 fun y W6 R6 f6 r6 => ?_
          obtain ⟨R7, f7⟩ := R3.rest R6 (f45.trans f6) hs4
          have n7 := n3.keep (S1 := { S6 with r := restR S3.r S6.r vs }) f7
          obtain ⟨vs7, h7, r7⟩ := n7.cr
          refine ⟨vs7, h7, by rw [r7.length]; exact Nat.lt_of_lt_of_le hlim lim_line, hlt, ?_⟩
          obtain ⟨R8, n8⟩ := R7.wrApart (c' := .lst (acc2 ++ [d])) (o := .lst (vs7 ++ [y])) n7 ⟨_, upd_same, r7.append (.cons r6 .nil)⟩
          refine ⟨_, _, acc2 ++ [d], rfl, R8, ?_, n8, e3⟩
          have ff := (f2.trans f3).trans f7
          refine ⟨ff.fx, ff.ix, fun b o h n => ?_, fun b h => ff.hp b (upd_none h)⟩
          obtain ⟨g1, g2⟩ := ff.ot b o h n
          have nb : b ≠ A := fun z => by rw [z, hA] at h; cases h
          exact ⟨by show upd _ A _ b = _; rw [upd_ne nb]; exact g1, g2⟩
        · cases e3
  · have ei : i = ds.length := by omega
    subst ei
    rw [List.drop_length] at e3
    cases e3
    exact .inl ⟨Y.stop W2 _ s R2 f2.fx f2.ix, k A W2 R2 (f1.trans f2) hA0 n2⟩

section
variable {X : Cx} {pos spos : Pos} {elt tg iter : Expr} {ifs : List Expr} {scope : Scope} {vs : List Nat} {own : List (Str × Nat)} {fi : AF} {g : GF} {ft : BF} {fe : EF} {t1 : TG} {t2 : TT} {t3 : TE}
theorem mts_nil : MTs X [] bYes := ⟨_, pts_nil, fun S d S' h W s Q R k => by cases h; exact k W R .refl⟩
theorem mts_one {c : Expr} (h : MT X c ft) : MTs X [c] ft := by
  obtain ⟨t, p, q⟩ := h
  exact ⟨_, pts_one p, q⟩
/-- what is said in the block: for every way the block may stand -/
def Blk (X : Cx) (scope : Scope) (R : Cx → Prop) : Prop := ∀ (s : Shared) (H : Hp) (C : Addr) (cl : List (Str × Addr)) (fp : List Addr), R (X.blk s H scope (compEnvC scope cl C X.env) fp)
/-! one reading for all of them -/
def tOf (K : PySem.W.Frag) (f : EF) : TE := fun s H Q => ∃ S d S' W, W.H = H ∧ Rel K W S s ∧ f S = some (d, S') ∧ ∀ v W', Rel K W' S' s → Fr W S.r s W' S'.r s → RV K W'.F W'.io v d → Q v W'.H
def ttOf (K : PySem.W.Frag) (f : BF) : TT := fun s H Q => ∃ S d S' W, W.H = H ∧ Rel K W S s ∧ f S = some (d, S') ∧ ∀ W', Rel K W' S' s → Fr W S.r s W' S'.r s → Q d W'.H
def tgOf (K : PySem.W.Frag) (vs : List Nat) (g : GF) : TG := fun v s H Q => ∃ d S S' W, W.H = H ∧ Rel K W S s ∧ RV K W.F W.io v d ∧ g d S = some S' ∧ ∀ W' s', L2.wipe s' vs = L2.wipe s vs → Rel K W' S' s' → Fr W S.r s W' S'.r s' → Q s' W'.H
theorem tOf_ok {K : PySem.W.Frag} : TEok K (tOf K fe) fe := fun S d S' h W s Q R k => ⟨S, d, S', W, rfl, R, h, k⟩
theorem ttOf_ok {K : PySem.W.Frag} : TTok K (ttOf K ft) ft := fun S d S' h W s Q R k => ⟨S, d, S', W, rfl, R, h, k⟩
theorem tgOf_ok {K : PySem.W.Frag} {vs : List Nat} : TGok K (tgOf K vs g) g := fun d S S' h W s v Q R r k => ⟨d, S, S', W, rfl, R, r, h, fun W' s' _ => k W' s'⟩
theorem tgOf_k {K : PySem.W.Frag} {vs : List Nat} : KG vs (tgOf K vs g) :=
  ⟨fun v s H Q Q' m ⟨d, S, S', W, e, R, r, h, k⟩ => ⟨d, S, S', W, e, R, r, h, fun W' s' e R' f => m _ _ (k W' s' e R' f)⟩,
   fun v s H Q ⟨d, S, S', W, e, R, r, h, k⟩ => ⟨d, S, S', W, e, R, r, h, fun W' s' e R' f => ⟨e, k W' s' e R' f⟩⟩⟩
theorem ME.pe {e : Expr} (h : ME X e fe) : PE X e (tOf X.K fe) := by
  obtain ⟨t, p, q⟩ := h
  exact ⟨fun pins s σ H Q I ⟨S, d, S', W, e, R, h, k⟩ => p.run pins s σ H Q I (by subst e; exact q S d S' h W σ Q R k)⟩
theorem MTs.pt (h : MTs X ifs ft) : PTs X ifs (ttOf X.K ft) := by
  obtain ⟨t, p, q⟩ := h
  exact ⟨fun pins s σ H Q I ⟨S, d, S', W, e, R, h, k⟩ => p.run pins s σ H Q I (by subst e; exact q S d S' h W σ Q R k)⟩
theorem MGk.pg {vs : List Nat} (h : MGk X vs tg g) : PG X tg (tgOf X.K vs g) := by
  obtain ⟨t, p, q, kg⟩ := h
  refine ⟨fun pins s σ H v u Q I r ⟨d, S, S', W, e, R, rv, h, k⟩ => p.run pins s σ H v u Q I r ?_⟩
  subst e
  refine kg.mono _ _ _ _ _ (fun s' H' z => ?_) (kg.keep _ _ _ _ (q d S S' h W σ v (fun s' H' => ∃ W', W'.H = H' ∧ Rel X.K W' S' s' ∧ Fr W S.r σ W' S'.r s') R rv fun W' s' R' f => ⟨W', rfl, R', f⟩))
  obtain ⟨e, W', rfl, R', f⟩ := z
  exact k W' s' e R' f
theorem mgk_name {x : Str} {xp : Pos} {vs : List Nat} (i : Nat) (hN : X.N.Nodup) (hm : i ∈ vs := by decide) (hi : X.N[i]? = some x := by rfl) (hx : Loc X.env.scope x := by first | exact Or.inl rfl | exact Or.inr rfl) (hf : X.fn x = true ∨ X.env.scope.names.lookup x = some .local := by first | exact .inl rfl | exact .inr rfl) :
    MGk X vs (.Name x xp) (gNm i) := ⟨_, pg_name hN hi hx hf, tg_name, kg_name hm⟩
def MGsk (X : Cx) (vs : List Nat) (tg : List Expr) (g : List D → Ms → Option Ms) : Prop := ∃ t, PGs X tg t ∧ TGsok X.K t g ∧ KGs vs t
theorem mgsk_nil {vs : List Nat} : MGsk X vs [] gsNil := by
  refine ⟨_, pgs_nil, fun d S S' h W s v Q R r k => ?_, kgs_nil⟩
  unfold gsNil at h
  split at h
  · rename_i c
    cases h
    cases r with
    | nil => exact ⟨rfl, k W s R .refl⟩
    | cons _ _ => cases c
  · cases h
theorem mgsk_cons {e : Expr} {es : List Expr} {vs : List Nat} {gs : List D → Ms → Option Ms} (h1 : MGk X vs e g) (h2 : MGsk X vs es gs) (hs : (assignEach (e :: es) X.env).map (·.2) = assign e X.env :: (assignEach es X.env).map (·.2) := by rfl) : MGsk X vs (e :: es) (gsCons g gs) := by
  obtain ⟨t, p, q, kg⟩ := h1
  obtain ⟨u, p', q', kg'⟩ := h2
  refine ⟨_, pgs_cons p p' hs, fun d S S' h W s v Q R r k => ?_, kgs_cons kg kg'⟩
  unfold gsCons at h
  cases r with
  | nil => cases h
  | @cons v vs d ds r1 r2 =>
    obtain ⟨S1, e1, h⟩ := bind_some h
    exact ⟨v, vs, rfl, q d S S1 e1 W s v _ R r1 fun W1 s1 R1 f1 => q' ds S1 S' h W1 s1 vs _ R1 (r2.up f1) fun W2 s2 R2 f2 => k W2 s2 R2 (f1.trans f2)⟩
theorem mgk_tup {es : List Expr} {k n : Nat} {vs : List Nat} {gs : List D → Ms → Option Ms} (hc : X.calm = true) (h : MGsk X vs es gs) (hn : (assignEach es X.env).length = n := by rfl) (hst : (assignEach es X.env).findIdx? (·.1) = none := by rfl) : MGk X vs (.Tuple es k pos) (gTp n gs) := by
  obtain ⟨t, p, q, kg⟩ := h
  refine ⟨_, pg_tup hc p hn hst, fun d S S' h W s v Q R r k => ?_, kg_tup kg⟩
  unfold gTp at h
  split at h
  · split at h
    · rename_i c
      obtain ⟨a, vs, rfl, h1, h2⟩ := r.tup_inv
      exact ⟨a, vs, rfl, sqT_mono R.sub h1, by rw [h2.length]; exact c, q _ S S' h W s vs Q R h2 k⟩
    · cases h
  · cases h
theorem mf_lc (hc : X.calm = true) (hN : X.N.Nodup) (hi : MI X tg iter fi) (ok : BlkOk X.N X.env.scope scope own)
    (hg : Blk X scope fun Y => MGk Y vs tg g) (ht : Blk X scope fun Y => MTs Y ifs ft) (he : Blk X scope fun Y => ME Y elt fe)
    (hvs : own.map (·.2) = vs := by rfl) (hs : ∀ x, foldedSetIterable iter X.env x = pure x := by intro _; rfl) : MF X (.ListComp elt [⟨tg, iter, ifs, 0⟩] scope pos) (cLc fi g ft fe vs) := by
  subst hvs
  obtain ⟨wi, pi, qi⟩ := hi
  exact ⟨_, pe_lc hc hN pi ok (fun s H C cl fp => (hg s H C cl fp).pg) (fun s H C cl fp => (ht s H C cl fp).pt) (fun s H C cl fp => (he s H C cl fp).pe) hs, tf_lc qi tgOf_ok ttOf_ok tOf_ok tgOf_k⟩
theorem te_new {K : PySem.W.Frag} {t : TE} {c : CF} (q : TFok K t c) : TEok K t (eNew c) := by
  intro S d S' h W s Q R k
  obtain ⟨⟨c, S1⟩, e1, h⟩ := bind_some h
  refine q S _ _ e1 W s _ R fun a W1 R1 f1 hp n => ?_
  cases c with
  | lst ds =>
    cases h
    obtain ⟨W2, e2, R2, f2, r⟩ := R1.freezeLst f1 hp n
    rw [← e2]
    exact k _ W2 R2 f2 r
  | dct ds =>
    cases h
    obtain ⟨W2, e2, R2, f2, r⟩ := R1.freezeDct f1 hp n
    rw [← e2]
    exact k _ W2 R2 f2 r
  | obj C fs => cases h
  | dT ds => cases h
theorem ts_val {K : PySem.W.Frag} {i : Nat} {t : TE} (q : TEok K t fe) : TSok K (tAsg t (gName i)) (sAsg fe (gNm i)) := by
  intro S fl S' h W s D R k
  obtain ⟨⟨d1, S1⟩, e1, h⟩ := bind_some h
  obtain ⟨S2, e2, h⟩ := bind_some h
  cases h
  exact q S _ _ e1 W s _ R fun v W1 R1 f1 r1 => tg_name (i := i) d1 S1 _ e2 W1 s v _ R1 r1 fun W2 s2 R2 f2 => k W2 s2 R2 (f1.trans f2)
variable {y : Str} {py : Pos}
theorem ps_lc (i : Nat) (hc : X.calm = true) (hN : X.N.Nodup) (hi : MI X tg iter fi) (ok : BlkOk X.N X.env.scope scope own)
    (hg : Blk X scope fun Y => MGk Y vs tg g) (ht : Blk X scope fun Y => MTs Y ifs ft) (he : Blk X scope fun Y => ME Y elt fe)
    (hsw : swapsWith (.ListComp elt [⟨tg, iter, ifs, 0⟩] scope pos) (some (.Name y py)) spos.line X.env = pure true) (hy : X.N[i]? = some y) (hyl : X.env.scope.names.lookup y = some .local)
    (hvs : own.map (·.2) = vs) (hs : ∀ x, foldedSetIterable iter X.env x = pure x) : ∃ t, PS X (.Assign [.Name y py] (.ListComp elt [⟨tg, iter, ifs, 0⟩] scope pos) spos) (tAsg t (gName i)) ∧ TFok X.K t (cLc fi g ft fe vs) := by
  subst hvs
  obtain ⟨wi, pi, qi⟩ := hi
  exact ⟨_, ps_setLc hc hN hy hyl hsw pi ok (fun s H C cl fp => (hg s H C cl fp).pg) (fun s H C cl fp => (ht s H C cl fp).pt) (fun s H C cl fp => (he s H C cl fp).pe) hs, tf_lc qi tgOf_ok ttOf_ok tOf_ok tgOf_k⟩
theorem ms_setLc (i : Nat) (hc : X.calm = true) (hN : X.N.Nodup) (hi : MI X tg iter fi) (ok : BlkOk X.N X.env.scope scope own)
    (hg : Blk X scope fun Y => MGk Y vs tg g) (ht : Blk X scope fun Y => MTs Y ifs ft) (he : Blk X scope fun Y => ME Y elt fe)
    (hsw : swapsWith (.ListComp elt [⟨tg, iter, ifs, 0⟩] scope pos) (some (.Name y py)) spos.line X.env = pure true) (hy : X.N[i]? = some y := by rfl) (hyl : X.env.scope.names.lookup y = some .local := by rfl)
    (hvs : own.map (·.2) = vs := by rfl) (hs : ∀ x, foldedSetIterable iter X.env x = pure x := by intro _; rfl) : MS X (.Assign [.Name y py] (.ListComp elt [⟨tg, iter, ifs, 0⟩] scope pos) spos) (sAsg (eNew (cLc fi g ft fe vs)) (gNm i)) := by
  obtain ⟨t, p, q⟩ := ps_lc i hc hN hi ok hg ht he hsw hy hyl hvs hs
  exact ⟨_, p, ts_val (te_new q)⟩
theorem ms_ownLc (i : Nat) (hc : X.calm = true) (hN : X.N.Nodup) (hi : MI X tg iter fi) (ok : BlkOk X.N X.env.scope scope own)
    (hg : Blk X scope fun Y => MGk Y vs tg g) (ht : Blk X scope fun Y => MTs Y ifs ft) (he : Blk X scope fun Y => ME Y elt fe)
    (hsw : swapsWith (.ListComp elt [⟨tg, iter, ifs, 0⟩] scope pos) (some (.Name y py)) spos.line X.env = pure true) (hy : X.N[i]? = some y := by rfl) (hyl : X.env.scope.names.lookup y = some .local := by rfl)
    (hvs : own.map (·.2) = vs := by rfl) (hs : ∀ x, foldedSetIterable iter X.env x = pure x := by intro _; rfl) : MS X (.Assign [.Name y py] (.ListComp elt [⟨tg, iter, ifs, 0⟩] scope pos) spos) (sOwn i (cLc fi g ft fe vs)) := by
  obtain ⟨t, p, q⟩ := ps_lc i hc hN hi ok hg ht he hsw hy hyl hvs hs
  exact ⟨_, p, ts_own q⟩
theorem ms_cellLc (i : Nat) (hc : X.calm = true) (hN : X.N.Nodup) (hi : MI X tg iter fi) (ok : BlkOk X.N X.env.scope scope own)
    (hg : Blk X scope fun Y => MGk Y vs tg g) (ht : Blk X scope fun Y => MTs Y ifs ft) (he : Blk X scope fun Y => ME Y elt fe)
    (hsw : swapsWith (.ListComp elt [⟨tg, iter, ifs, 0⟩] scope pos) (some (.Name y py)) spos.line X.env = pure true) (hy : X.N[i]? = some y := by rfl) (hyl : X.env.scope.names.lookup y = some .local := by rfl)
    (hvs : own.map (·.2) = vs := by rfl) (hs : ∀ x, foldedSetIterable iter X.env x = pure x := by intro _; rfl) : MS X (.Assign [.Name y py] (.ListComp elt [⟨tg, iter, ifs, 0⟩] scope pos) spos) (sCell i (cLc fi g ft fe vs)) := by
  obtain ⟨t, p, q⟩ := ps_lc i hc hN hi ok hg ht he hsw hy hyl hvs hs
  exact ⟨_, p, ts_cell q⟩
end
end M

/-! M5: chains of comparisons, in, slices of every kind, defs in short, the law's end. -/
namespace M
open PySem PySem.Spec L2

/-! ### a < b < c -/
def eChain (g g' : D → D → Option D) (a b c : EF) : EF := fun S => (a S).bind fun p => (b p.2).bind fun q => (g (vw q.2 p.1) (vw q.2 q.1)).bind fun z => match z with
  | .bl true => (c q.2).bind fun r => (g' (vw r.2 q.1) (vw r.2 r.1)).bind fun z => some (z, r.2)
  | .bl false => some (.bl false, q.2)
  | _ => none
section
variable {X : Cx} {pos p2 : Pos} {a b c e : Expr} {fa fb fc : EF} {g g' : D → D → Option D} {op op' : CmpOp}
theorem te_chain {K : PySem.W.Frag} {r r' : R2} {ta tb tc : TE} (h : ∀ x y d e z, g d e = some z → ∀ W S s (Q : VK), Rel K W S s → RH K W x d → RH K W y e → (∀ v W', Rel K W' S s → Fr W S.r s W' S.r s → RV K W'.F W'.io v z → Q v W'.H) → r x y W.H Q)
    (h' : ∀ x y d e z, g' d e = some z → ∀ W S s (Q : VK), Rel K W S s → RH K W x d → RH K W y e → (∀ v W', Rel K W' S s → Fr W S.r s W' S.r s → RV K W'.F W'.io v z → Q v W'.H) → r' x y W.H Q)
    (ha : TEok K ta fa) (hb : TEok K tb fb) (hc : TEok K tc fc) : TEok K (tChain r r' ta tb tc) (eChain g g' fa fb fc) := by
  intro S d S' q W s Q R k
  obtain ⟨⟨d1, S1⟩, e1, q⟩ := bind_some q
  obtain ⟨⟨d2, S2⟩, e2, q⟩ := bind_some q
  obtain ⟨z, e3, q⟩ := bind_some q
  refine ha S d1 S1 e1 W s _ R fun x W1 R1 f1 q1 => ?_
  refine hb S1 d2 S2 e2 W1 s _ R1 fun y W2 R2 f2 q2 => ?_
  refine h x y _ _ z e3 W2 S2 s _ R2 (R2.vw (q1.up f2)) (R2.vw q2) fun v W3 R3 f3 q3 => ?_
  simp only at q
  split at q
  · obtain ⟨⟨d3, S3⟩, e4, q⟩ := bind_some q
    obtain ⟨z', e5, q⟩ := bind_some q
    cases q
    refine ⟨true, q3.bl_inv, ?_⟩
    rw [if_pos rfl]
    refine hc S2 d3 S3 e4 W3 s _ R3 fun w W4 R4 f4 q4 => ?_
    exact h' y w _ _ _ e5 W4 S3 s Q R4 (R4.vw ((q2.up f3).up f4)) (R4.vw q4) fun v W5 R5 f5 q5 => k v W5 R5 ((((f1.trans f2).trans f3).trans f4).trans f5) q5
  · cases q
    refine ⟨false, q3.bl_inv, ?_⟩
    rw [if_neg Bool.false_ne_true]
    exact k _ W3 R3 ((f1.trans f2).trans f3) (.bl _)
  · cases q
theorem me_chain (ho : OpM X (compareOp op) g) (ho' : OpM X (compareOp op') g') (ha : ME X a fa) (hb : ME X b fb) (hc : ME X c fc) (hm : lastMarks [op, op'] [b, c] = false := by with_unfolding_all rfl) :
    ME X (.Compare a [op, op'] [b, c] pos) (eChain g g' fa fb fc) := by
  obtain ⟨r, h1, h2⟩ := ho
  obtain ⟨r', h1', h2'⟩ := ho'
  obtain ⟨ta, p1, q1⟩ := ha
  obtain ⟨tb, p2, q2⟩ := hb
  obtain ⟨tc, p3, q3⟩ := hc
  exact ⟨_, pe_chain h1 h1' p1 p2 p3 hm, te_chain h2 h2' q1 q2 q3⟩
theorem mt_chain (ho : OpM X (compareOp op) g) (ho' : OpM X (compareOp op') g') (ha : ME X a fa) (hb : ME X b fb) (hc : ME X c fc) (hm : lastMarks [op, op'] [b, c] = false := by with_unfolding_all rfl) :
    MT X (.Compare a [op, op'] [b, c] pos) (bOf (eChain g g' fa fb fc)) := by
  obtain ⟨r, h1, h2⟩ := ho
  obtain ⟨r', h1', h2'⟩ := ho'
  obtain ⟨ta, p1, q1⟩ := ha
  obtain ⟨tb, p2, q2⟩ := hb
  obtain ⟨tc, p3, q3⟩ := hc
  exact ⟨_, pt_chain h1 h1' p1 p2 p3 hm, tt_of (te_chain h2 h2' q1 q2 q3)⟩
end

/-! ### operands that are only seen -/
section
variable {X : Cx} {pos xp : Pos} {a b : Expr} {fa fb : EF} {g : D → D → Option D} {x : Str}
theorem me_opLv {op : Operator} (i : Nat) (ho : OpM X (binaryOp op) g) (hb : ME X b fb) (hN : X.N[i]? = some x := by rfl) (hv : Vis X.env.scope x := by first | exact Or.inl rfl | exact Or.inr (Or.inl rfl) | exact Or.inr (Or.inr rfl))
    (hd : (x == ("__debug__" : Str)) = false := by decide) (hcd : (x == ("__classdict__" : Str)) = false := by decide) : ME X (.BinOp (.Name x xp) op b pos) (eOpL g i fb) := by
  obtain ⟨r, h1, h2⟩ := ho
  obtain ⟨tb, p2, q2⟩ := hb
  exact ⟨_, pe_op h1 (pe_var hN hv hd hcd) p2, te_opL h2 q2⟩
theorem me_opRv {op : Operator} (j : Nat) (ho : OpM X (binaryOp op) g) (ha : ME X a fa) (hN : X.N[j]? = some x := by rfl) (hv : Vis X.env.scope x := by first | exact Or.inl rfl | exact Or.inr (Or.inl rfl) | exact Or.inr (Or.inr rfl))
    (hd : (x == ("__debug__" : Str)) = false := by decide) (hcd : (x == ("__classdict__" : Str)) = false := by decide) : ME X (.BinOp a op (.Name x xp) pos) (eOpR g fa j) := by
  obtain ⟨r, h1, h2⟩ := ho
  obtain ⟨ta, p1, q1⟩ := ha
  exact ⟨_, pe_op h1 p1 (pe_var hN hv hd hcd), te_opR h2 q1⟩
theorem me_cmpL {op : CmpOp} (i : Nat) (ho : OpM X (compareOp op) g) (hb : ME X b fb) (hN : X.N[i]? = some x := by rfl) (hv : Vis X.env.scope x := by first | exact Or.inl rfl | exact Or.inr (Or.inl rfl) | exact Or.inr (Or.inr rfl))
    (hm : behindInMarks op b = false := by first | exact nomark _ | rfl) (hd : (x == ("__debug__" : Str)) = false := by decide) (hcd : (x == ("__classdict__" : Str)) = false := by decide) : ME X (.Compare (.Name x xp) [op] [b] pos) (eOpL g i fb) := by
  obtain ⟨r, h1, h2⟩ := ho
  obtain ⟨tb, p2, q2⟩ := hb
  exact ⟨_, pe_cmpR h1 (pe_var hN hv hd hcd) p2 hm, te_opL h2 q2⟩
theorem mt_cmpL {op : CmpOp} (i : Nat) (ho : OpM X (compareOp op) g) (hb : ME X b fb) (hN : X.N[i]? = some x := by rfl) (hv : Vis X.env.scope x := by first | exact Or.inl rfl | exact Or.inr (Or.inl rfl) | exact Or.inr (Or.inr rfl))
    (hm : behindInMarks op b = false := by first | exact nomark _ | rfl) (hd : (x == ("__debug__" : Str)) = false := by decide) (hcd : (x == ("__classdict__" : Str)) = false := by decide) : MT X (.Compare (.Name x xp) [op] [b] pos) (bOf (eOpL g i fb)) := by
  obtain ⟨r, h1, h2⟩ := ho
  obtain ⟨tb, p2, q2⟩ := hb
  exact ⟨_, pt_cmpR h1 (pe_var hN hv hd hcd) p2 hm, tt_of (te_opL h2 q2)⟩
end

/-! ### x in xs, flat items -/
def flatD : D → Bool
  | .non | .bl _ | .int _ | .str _ => true
  | _ => false
def eqF (d e : D) : Bool := match toPy d, toPy e with
  | some p, some q => PyData.eqv p q
  | _, _ => false
def gInF (neg : Bool) (d e : D) : Option D := match e with
  | .lst ds | .tup ds => if flatD d = true ∧ ds.all flatD = true then some (.bl (if neg then !(ds.any fun y => eqF y d) else ds.any fun y => eqF y d)) else none
  | _ => none
def gInL (neg : Bool) (d e : D) : Option D := match e with
  | .lst ds => (toPy d).bind fun p => (toPys ds).bind fun ps => if SeqAt.shaped p = true ∧ SeqAt.shaped (.list ps) = true then some (.bl (if neg then !(ps.any fun z => PyData.eqv z p) else ps.any fun z => PyData.eqv z p)) else none
  | _ => none
def gInT (neg : Bool) (d e : D) : Option D := match e with
  | .tup ds => if flatD d = true ∧ ds.all flatD = true then some (.bl (if neg then !(ds.any fun y => eqF y d) else ds.any fun y => eqF y d)) else none
  | _ => none
def gIn (neg : Bool) (d e : D) : Option D := (gInL neg d e).or (gInT neg d e)
section
variable {X : Cx} {K : PySem.W.Frag} {F : Hp} {io : List Addr}
theorem eqF_ok {x y : V} {d e : D} (rx : RV K F io x d) (ry : RV K F io y e) (hd : flatD d = true) (he : flatD e = true) : flatV x = true ∧ eqV y x = eqF e d := by
  cases rx <;> cases ry <;> first
    | (cases hd; done)
    | (cases he; done)
    | (refine ⟨rfl, ?_⟩; simp [eqV, eqF, toPy, PyData.eqv]; done)
    | (refine ⟨rfl, ?_⟩; rename_i a b; cases a <;> simp [eqV, eqF, toPy, PyData.eqv]; done)
    | (refine ⟨rfl, ?_⟩; rename_i a b; cases b <;> simp [eqV, eqF, toPy, PyData.eqv]; done)
theorem flat_of {x : V} {d : D} (r : RV K F io x d) (h : flatD d = true) : flatV x = true := by
  cases r <;> first | rfl | cases h
theorem flats_of : ∀ {xs : List V} {ds : List D}, RVs K F io xs ds → ds.all flatD = true → xs.all flatV = true
  | _, _, .nil, _ => rfl
  | _, _, .cons h t, e => by
    simp only [List.all_cons, Bool.and_eq_true] at e ⊢
    exact ⟨flat_of h e.1, flats_of t e.2⟩
theorem any_of {x : V} {d : D} (r : RV K F io x d) (h : flatD d = true) : ∀ {xs : List V} {ds : List D}, RVs K F io xs ds → ds.all flatD = true → inV x xs = ds.any fun y => eqF y d
  | _, _, .nil, _ => rfl
  | _, _, @RVs.cons _ _ _ v vs e es hv t, he => by
    simp only [List.all_cons, Bool.and_eq_true] at he
    show (eqV v x || inV x vs) = (eqF e d || es.any fun y => eqF y d)
    rw [(eqF_ok r hv h he.1).2, any_of r h t he.2]
theorem oInL (hu : X.A.units + 65 < cLine) : OpM X (compareOp .In) (gInL false) := by
  refine ⟨_, op_inD hu, fun x y d e z hz W S s Q R rx ry k => ?_⟩
  unfold gInL at hz
  split at hz
  · obtain ⟨p, hp, hz⟩ := bind_some hz
    obtain ⟨ps, hps, hz⟩ := bind_some hz
    split at hz
    · rename_i c
      cases hz
      exact ⟨p, ps, rh_dp R rx hp, rh_dp R ry (by simp only [toPy, hps]; rfl), c.1, c.2, k _ W R .refl (.bl _)⟩
    · cases hz
  · cases hz
theorem oNotInL (hu : X.A.units + 65 < cLine) : OpM X (compareOp .NotIn) (gInL true) := by
  refine ⟨_, op_notInD hu, fun x y d e z hz W S s Q R rx ry k => ?_⟩
  unfold gInL at hz
  split at hz
  · obtain ⟨p, hp, hz⟩ := bind_some hz
    obtain ⟨ps, hps, hz⟩ := bind_some hz
    split at hz
    · rename_i c
      cases hz
      exact ⟨p, ps, rh_dp R rx hp, rh_dp R ry (by simp only [toPy, hps]; rfl), c.1, c.2, k _ W R .refl (.bl _)⟩
    · cases hz
  · cases hz
theorem rh_flat {W : Wd} {x : V} {d : D} (h : RH K W x d) (f : flatD d = true) : RV K W.F W.io x d := by
  cases d <;> first | exact h | cases f
theorem oInT : OpM X (compareOp .In) (gInT false) := by
  refine ⟨_, op_in_seq, fun x y d e z hz W S s Q R rx ry k => ?_⟩
  unfold gInT at hz
  split at hz
  · split at hz
    · rename_i c
      cases hz
      obtain ⟨a, vs, rfl, h1, h2⟩ := RV.tup_inv ry
      have rd := rh_flat rx c.1
      refine ⟨a, vs, rfl, .inr (sqT_mono R.sub h1), flat_of rd c.1, flats_of h2 c.2, ?_⟩
      rw [any_of rd c.1 h2 c.2]
      exact k _ W R .refl (.bl _)
    · cases hz
  · cases hz
theorem oNotInT : OpM X (compareOp .NotIn) (gInT true) := by
  refine ⟨_, op_notIn_seq, fun x y d e z hz W S s Q R rx ry k => ?_⟩
  unfold gInT at hz
  split at hz
  · split at hz
    · rename_i c
      cases hz
      obtain ⟨a, vs, rfl, h1, h2⟩ := RV.tup_inv ry
      have rd := rh_flat rx c.1
      refine ⟨a, vs, rfl, .inr (sqT_mono R.sub h1), flat_of rd c.1, flats_of h2 c.2, ?_⟩
      rw [any_of rd c.1 h2 c.2]
      exact k _ W R .refl (.bl _)
    · cases hz
  · cases hz
theorem oIn (hu : X.A.units + 65 < cLine) : OpM X (compareOp .In) (gIn false) := (oInL hu).or oInT
theorem oNotIn (hu : X.A.units + 65 < cLine) : OpM X (compareOp .NotIn) (gIn true) := (oNotInL hu).or oNotInT
end
theorem u65 {k : Nat} {A : Around} (r : Room k A) : A.units + 65 < cLine := by have := r.un; omega

/-! ### slices of every kind, the list's frozen -/
def gSl3 (d : D) (lo hi : Option Int) : Option D := match d with
  | .lst ds => some (.lst (cutD ds lo hi))
  | .sc ds => some (.lst (cutD ds lo hi))
  | .tup ds => some (.tup (cutD ds lo hi))
  | .str z => if z.length ≤ LIM then some (.str (cutS z lo hi)) else none
  | _ => none
def eSl3 (f : EF) (l h : OF) : EF := fun S => (f S).bind fun p => (l p.2).bind fun q => (h q.2).bind fun r => (gSl3 (vw r.2 p.1) q.1 r.1).bind fun z => some (z, r.2)
section
variable {X : Cx} {pos p2 : Pos} {e : Expr} {lo hi : Option Expr} {f : EF} {l h : OF}
theorem me_sl3 (he : ME X e f) (hl : MO X lo l) (hh : MO X hi h) : ME X (.Subscript e (.Slice lo hi none p2) pos) (eSl3 f l h) := by
  obtain ⟨t, p, q⟩ := he
  obtain ⟨tl, pl, ql⟩ := hl
  obtain ⟨th, ph, qh⟩ := hh
  refine ⟨_, pe_slice (sl_list.or (sl_tupA.or sl_str)) p pl ph, fun S d S' hz W s Q R k => ?_⟩
  obtain ⟨⟨d1, S1⟩, e1, hz⟩ := bind_some hz
  obtain ⟨⟨d2, S2⟩, e2, hz⟩ := bind_some hz
  obtain ⟨⟨d3, S3⟩, e3, hz⟩ := bind_some hz
  obtain ⟨z, e4, hz⟩ := bind_some hz
  cases hz
  refine q S _ _ e1 W s _ R fun v W1 R1 f1 r1 => ?_
  refine ql S1 _ _ e2 W1 s _ R1 fun W2 R2 f2 => ?_
  refine qh S2 _ _ e3 W2 s _ R2 fun W3 R3 f3 => ?_
  have r3 := R3.vw ((r1.up f2).up f3)
  have ff := (f1.trans f2).trans f3
  simp only at e4
  generalize vw S3 d1 = w at e4 r3
  unfold gSl3 at e4
  split at e4
  · cases e4
    obtain ⟨a, vs, rfl, h1, h2⟩ := r3
    refine .inl ⟨a, vs, rfl, .of h1, fun p hp => ?_⟩
    obtain ⟨R4, f4⟩ := R3.al (o := .lst (cutV vs d2 d3)) hp
    exact k _ _ R4 (ff.trans f4) (.lst upd_same ((cut_rv h2 _ _).up f4))
  · cases e4
    obtain ⟨a, vs, rfl, h1, h2⟩ := RV.sc_inv r3
    refine .inl ⟨a, vs, rfl, sqL_mono R3.sub h1, fun p hp => ?_⟩
    obtain ⟨R4, f4⟩ := R3.al (o := .lst (cutV vs d2 d3)) hp
    exact k _ _ R4 (ff.trans f4) (.lst upd_same ((cut_rv h2 _ _).up f4))
  · cases e4
    obtain ⟨a, vs, rfl, h1, h2⟩ := RV.tup_inv r3
    refine .inr (.inl ⟨a, vs, rfl, sqT_mono R3.sub h1, fun w => ?_, fun _ p hp => ?_⟩)
    · refine k _ W3 R3 ff (.tup h1 ?_)
      have e : cutV vs d2 d3 = vs := by unfold cutV; rw [w.1, w.2]; simp
      rw [← e]
      exact cut_rv h2 _ _
    · obtain ⟨R4, f4⟩ := R3.al (o := .tup (cutV vs d2 d3)) hp
      exact k _ _ R4 (ff.trans f4) (.tup (.of upd_same) ((cut_rv h2 _ _).up f4))
  · split at e4
    · rename_i c
      cases e4
      exact .inr (.inr ⟨_, RV.str_inv r3, Nat.le_trans c lim_line, k _ W3 R3 ff (.str _)⟩)
    · cases e4
  · cases e4
end

/-! ### defs in short -/
structure Fnn (P : Program) (w : World) (K : PySem.W.Frag) (mg : Str → Option Value) (base : Heap) (k : Nat) (x : Str) (ps : List Str) (ff : FF) : Prop where
  ex : ∃ (f : Addr) (fd : FuncData), FnOk P w K mg base CX0 k f fd ps (spM K ps.length ff) ∧ mg x = some (.ref f) ∧ PySem.W.keepIn K (.ref f) = true ∧ Binds K fd ps []
section
variable {X : Cx} {k n : Nat} {ps : List Str} {ff gg : FF} {x : Str} {p pos : Pos} {e : Expr} {es : List Expr} {fa : AF}
theorem me_f (G : Fnn X.prog X.w X.K X.mg X.base k x ps ff) (hr : Room k X.A) (ha : MA X (e :: es) fa)
    (hn : ps.length = n := by rfl) (hg : Gl X x := by rfl) (hdb : (x == ("__debug__" : Str)) = false := by decide) (he : starEach (e :: es) X.env = (false, eval e X.env) :: starEach es X.env := by rfl) (hpl : (backTo pos (starEach es X.env)).any (·.1) = false := by rfl) :
    ME X (.Call (.Name x p) (e :: es) [] pos) (eFn n ff fa) := by
  obtain ⟨f, fd, G, hm, hk, hb⟩ := G.ex
  rw [hn] at G
  exact me_fn G hr hm hk hb ha hg hdb he hpl
theorem me_f0 (G : Fnn X.prog X.w X.K X.mg X.base k x [] ff) (hr : Room k X.A) (hg : Gl X x := by rfl) (hdb : (x == ("__debug__" : Str)) = false := by decide) : ME X (.Call (.Name x p) [] [] pos) (eFn 0 ff aNil) := by
  obtain ⟨f, fd, G, hm, hk, hb⟩ := G.ex
  exact me_fn0 G hr hm hk hb hg hdb
theorem Fnn.imp {P : Program} {w : World} {K : PySem.W.Frag} {mg : Str → Option Value} {base : Heap} (G : Fnn P w K mg base k x ps ff) (h : ∀ ds m d m', gg ds m = some (d, m') → ff ds m = some (d, m')) : Fnn P w K mg base k x ps gg := by
  obtain ⟨f, fd, G, r⟩ := G.ex
  exact ⟨f, fd, G.imp (spM_imp h), r⟩
end
section
variable {P : Program} {w : World} {K : PySem.W.Frag} {mg : Str → Option Value} {base : Heap}
theorem fnn {x qual : Str} {st : Stmt} {f : Addr} {fd : FuncData} {N ps : List Str} {k : Nat} {b : SF} (F : Fun K x qual st f fd) (hm : mg x = some (.ref f)) (S : FnScope N ps (defScope st))
    (hbi : ∀ (kV doc pm : Value) (an : Option Addr) (cdv ct : Value) (us : List Value), us.length = ps.length → bindArgs (PySem.W.fnOf x qual (defArgs st) (defBody st) (defScope st) .none kV doc pm an cdv ct) ⟨us, []⟩ = pure (ps.zip us))
    (hb : ∀ (cdv : Value) (A : Around) (outer : List Env) (s : Shared) (H : Hp) (E : XK), Room k (A.deeper (PyProof.Rows.envOfC qual (defScope st) s.heap.objs.size f cdv)) →
      MSs (cxOf CX0 P w K mg base N qual (defScope st) f cdv A outer s H E).nox (defBody st) b) : Fnn P w K mg base (k + 1) x ps (fnM N.length b) :=
  ⟨f, fd, fn_ok F S hb, hm, F.kp, F.binds hbi⟩
/-- the law's own: what is asked of the machine is that it gives True -/
theorem law_sp {K : PySem.W.Frag} {H : Hp} {a : Addr} {ns : List Int} {ff : FF} {m' : List Cell} (hS : SqL K H a (ns.map V.int)) (h : ff [.sc (ns.map D.int)] [] = some (.bl true, m')) {E : XK} : spM K 1 ff [.ref a] H (fun v _ => v = .bl true) E :=
  ⟨rfl, ⟨H, H, []⟩, [.sc (ns.map D.int)], [], .bl true, m', rfl, ⟨fun _ _ h => h, List.nodup_nil, fun a h => by simp at h, rfl, fun k c a h => by simp at h, rfl, fun i d h => by simp at h, fun i c h => by simp at h, fun i j c c' a h => by simp at h⟩,
    .cons (.sc hS (RVs.ints ns)) .nil, h, fun v W' _ _ r => r.bl_inv⟩
end
end M

/-! M6: the machine's functions, applied to a state: rows for simp. -/
namespace M
open PySem PySem.Spec L2
section
variable {S : Ms} {f g h : EF} {a b : AF} {t u : BF} {p q : SF} {G : GF} {c : CF} {i j n : Nat} {d e : D} {o : D → D → Option D} {k : D → Option D}
@[simp] theorem sNil_ap : sNil S = some (.nx, S) := rfl
@[simp] theorem sBk_ap : sBk S = some (.bk, S) := rfl
@[simp] theorem sCt_ap : sCt S = some (.ct, S) := rfl
@[simp] theorem sRetN_ap : sRetN S = some (.rt .non, S) := rfl
@[simp] theorem sSeq_ap : sSeq p q S = (p S).bind fun x => match x.1 with | .nx => q x.2 | fl => some (fl, x.2) := rfl
@[simp] theorem sExpr_ap : sExpr f S = (f S).bind fun x => some (.nx, x.2) := rfl
@[simp] theorem sRet_ap : sRet f S = (f S).bind fun x => some (.rt x.1, x.2) := rfl
@[simp] theorem sIf_ap : sIf t p q S = (t S).bind fun x => if x.1 then p x.2 else q x.2 := rfl
@[simp] theorem sAsg_ap : sAsg f G S = (f S).bind fun x => (G x.1 x.2).bind fun S' => some (.nx, S') := rfl
@[simp] theorem sOwn_ap : sOwn i c S = (c S).bind fun x => some (.nx, ⟨x.2.r.set i (.own x.1), x.2.m⟩) := rfl
@[simp] theorem sCell_ap : sCell i c S = (c S).bind fun x => some (.nx, ⟨x.2.r.set i (.val (.ref x.2.m.length)), x.2.m ++ [x.1]⟩) := rfl
@[simp] theorem sFor_ap : sFor a G p S = (a S).bind fun x => forM G p x.1 x.2 := rfl
theorem sWhile_ap : sWhile t p S = whileM t p WMAX S := rfl
@[simp] theorem gNm_ap : gNm i d S = some ⟨S.r.set i (.val d), S.m⟩ := rfl
@[simp] theorem gTp_tup {ds : List D} {gs : List D → Ms → Option Ms} : gTp n gs (.tup ds) S = if ds.length = n then gs ds S else none := rfl
@[simp] theorem gsNil_ap : gsNil [] S = some S := rfl
@[simp] theorem gsCons_ap {ds : List D} {gs : List D → Ms → Option Ms} : gsCons G gs (d :: ds) S = (G d S).bind fun S1 => gs ds S1 := rfl
@[simp] theorem eC_ap : eC d S = some (d, S) := rfl
@[simp] theorem eVar_ap : eVar i S = match S.r[i]? with
  | some (.val d) => some (d, S)
  | some (.own (.lst ds)) => some (.lst ds, ⟨S.r.set i (.val (.lst ds)), S.m⟩)
  | some (.own (.dct ds)) => some (.dct ds, ⟨S.r.set i (.val (.dct ds)), S.m⟩)
  | _ => none := rfl
@[simp] theorem sees_ap : sees i S = match S.r[i]? with
  | some (.val d) => some (vw S d)
  | some (.own (.lst ds)) => some (.lst ds)
  | some (.own (.dct kds)) => some (.dct kds)
  | _ => none := rfl
@[simp] theorem held_ap : held i S = match S.r[i]? with
  | some (.val _) => true
  | some (.own _) => true
  | _ => false := rfl
@[simp] theorem vw_non : vw S .non = .non := rfl
@[simp] theorem vw_bl {x} : vw S (.bl x) = .bl x := rfl
@[simp] theorem vw_int {x} : vw S (.int x) = .int x := rfl
@[simp] theorem vw_str {x} : vw S (.str x) = .str x := rfl
@[simp] theorem vw_tup {x} : vw S (.tup x) = .tup x := rfl
@[simp] theorem vw_lst {x} : vw S (.lst x) = .lst x := rfl
@[simp] theorem vw_sc {x} : vw S (.sc x) = .sc x := rfl
@[simp] theorem vw_dct {x} : vw S (.dct x) = .dct x := rfl
@[simp] theorem vw_ref {x} : vw S (.ref x) = match S.m[x]? with
    | some (.lst ds) => .lst ds
    | some (.dct kds) => .dct kds
    | _ => .ref x := rfl
@[simp] theorem eOp_ap : eOp o f g S = (f S).bind fun x => (g x.2).bind fun y => (o (vw y.2 x.1) (vw y.2 y.1)).bind fun z => some (z, y.2) := rfl
@[simp] theorem eOpL_ap : eOpL o i f S = if held i S then (f S).bind fun y => (sees i y.2).bind fun x => (o x (vw y.2 y.1)).bind fun z => some (z, y.2) else none := rfl
@[simp] theorem eOpR_ap : eOpR o f j S = (f S).bind fun x => (sees j x.2).bind fun y => (o (vw x.2 x.1) y).bind fun z => some (z, x.2) := rfl
@[simp] theorem bOf_ap : bOf f S = (f S).bind fun x => match x.1 with | .bl b => some (b, x.2) | _ => none := rfl
@[simp] theorem bTru_ap : bTru f S = (f S).bind fun x => (gTru (vw x.2 x.1)).bind fun b => some (b, x.2) := rfl
@[simp] theorem bTruV_ap : bTruV i S = (sees i S).bind fun x => (gTru x).bind fun b => some (b, S) := rfl
@[simp] theorem bAnd_ap : bAnd t u S = (t S).bind fun x => if x.1 then u x.2 else some (false, x.2) := rfl
@[simp] theorem bOr_ap : bOr t u S = (t S).bind fun x => if x.1 then some (true, x.2) else u x.2 := rfl
@[simp] theorem bNot_ap : bNot t S = (t S).bind fun x => some (!x.1, x.2) := rfl
@[simp] theorem bYes_ap : bYes S = some (true, S) := rfl
@[simp] theorem eAnd_ap : eAnd f g S = (f S).bind fun x => match x.1 with | .bl true => g x.2 | .bl false => some (.bl false, x.2) | _ => none := rfl
@[simp] theorem eOr_ap : eOr f g S = (f S).bind fun x => match x.1 with | .bl true => some (.bl true, x.2) | .bl false => g x.2 | _ => none := rfl
@[simp] theorem eNot_ap : eNot f S = (f S).bind fun x => match x.1 with | .bl b => some (.bl (!b), x.2) | _ => none := rfl
@[simp] theorem eIf_ap : eIf t f g S = (t S).bind fun x => if x.1 then f x.2 else g x.2 := rfl
@[simp] theorem eUn_ap : eUn k f S = (f S).bind fun x => (k x.1).bind fun z => some (z, x.2) := rfl
@[simp] theorem aNil_ap : aNil S = some ([], S) := rfl
@[simp] theorem aCons_ap : aCons f a S = (f S).bind fun x => (a x.2).bind fun y => some (x.1 :: y.1, y.2) := rfl
@[simp] theorem eTup_ap : eTup a S = (a S).bind fun x => if x.1.length ≤ LIM then some (.tup x.1, x.2) else none := rfl
@[simp] theorem cLst_ap : cLst a S = (a S).bind fun x => if x.1.length ≤ LIM then some (.lst x.1, x.2) else none := rfl
@[simp] theorem eNew_ap : eNew c S = (c S).bind fun x => match x.1 with | .lst ds => some (.lst ds, x.2) | .dct ds => some (.dct ds, x.2) | _ => none := rfl
@[simp] theorem oNone_ap : oNone S = some (none, S) := rfl
@[simp] theorem oSome_ap : oSome f S = (f S).bind fun x => match x.1 with | .int i => some (some i, x.2) | _ => none := rfl
@[simp] theorem eSl3_ap {l r : OF} : eSl3 f l r S = (f S).bind fun x => (l x.2).bind fun y => (r y.2).bind fun w => (gSl3 (vw w.2 x.1) y.1 w.1).bind fun z => some (z, w.2) := rfl
@[simp] theorem cSl_ap {l r : OF} : cSl f l r S = (f S).bind fun x => (l x.2).bind fun y => (r y.2).bind fun w => (gSlL (vw w.2 x.1) y.1 w.1).bind fun z => some (z, w.2) := rfl
@[simp] theorem eCall_ap : eCall k f S = (f S).bind fun x => (k (vw x.2 x.1)).bind fun z => some (z, x.2) := rfl
@[simp] theorem eCallV_ap : eCallV k i S = (sees i S).bind fun x => (k x).bind fun z => some (z, S) := rfl
@[simp] theorem cCall_ap {k : D → Option Cell} : cCall k f S = (f S).bind fun x => (k (vw x.2 x.1)).bind fun z => some (z, x.2) := rfl
@[simp] theorem cCallV_ap {k : D → Option Cell} : cCallV k i S = (sees i S).bind fun x => (k x).bind fun z => some (z, S) := rfl
@[simp] theorem eCalls_ap {k : List D → Option D} : eCalls k a S = (a S).bind fun x => (k x.1).bind fun z => some (z, x.2) := rfl
@[simp] theorem eIsi_ap {T : String} : eIsi T f S = (f S).bind fun x => (gIsi T x.1).bind fun z => some (z, x.2) := rfl
@[simp] theorem eFn_ap {ff : FF} : eFn n ff a S = (a S).bind fun x => if x.1.length = n then (ff x.1 x.2.m).bind fun y => some (y.1, ⟨x.2.r, y.2⟩) else none := rfl
@[simp] theorem iSeq_ap : iSeq f S = (f S).bind fun x => (seqD x.1).bind fun ds => some (ds, x.2) := rfl
@[simp] theorem seqD_lst {ds} : seqD (.lst ds) = some ds := rfl
@[simp] theorem seqD_tup {ds} : seqD (.tup ds) = some ds := rfl
@[simp] theorem seqD_sc {ds} : seqD (.sc ds) = some ds := rfl
open Classical in
@[simp] theorem iRg1_ap : iRg1 f S = (f S).bind fun x => match x.1 with | .int n => if -2000000000000000000 ≤ n ∧ n ≤ 2000000000000000000 then some (rngD 0 n.toNat, x.2) else none | _ => none := rfl
open Classical in
@[simp] theorem iRg2_ap : iRg2 f g S = (f S).bind fun x => (g x.2).bind fun y => match x.1, y.1 with | .int a, .int b => if -2000000000000000000 ≤ a ∧ a ≤ 2000000000000000000 ∧ -2000000000000000000 ≤ b ∧ b ≤ 2000000000000000000 then some (rngD a (b - a).toNat, y.2) else none | _, _ => none := rfl
@[simp] theorem eApp_ap : eApp i f S = if isL i S then (f S).bind fun x => (modL i (fun ds => if ds.length < LIM then some (ds ++ [x.1]) else none) x.2).bind fun S' => some (.non, S') else none := rfl
@[simp] theorem isL_ap : isL i S = match sees i S with | some (.lst _) => true | _ => false := rfl
@[simp] theorem modL_ap {x : List D → Option (List D)} : modL i x S = match S.r[i]? with
  | some (.own (.lst ds)) => (x ds).bind fun es => some ⟨S.r.set i (.own (.lst es)), S.m⟩
  | some (.val (.ref k)) => match S.m[k]? with
    | some (.lst ds) => (x ds).bind fun es => some ⟨S.r, S.m.set k (.lst es)⟩
    | _ => none
  | _ => none := rfl
@[simp] theorem gSubV_ap : gSubV i f d S = if held i S then (f S).bind fun x => modL i (setAt d x.1) x.2 else none := rfl
@[simp] theorem setAt_ap {x : Int} {ds : List D} : setAt d (.int x) ds = (ixN ds.length x).bind fun j => some (ds.set j d) := rfl
@[simp] theorem forM_nil : forM G p [] S = some (.nx, S) := rfl
theorem forM_cons {ds : List D} : forM G p (d :: ds) S = (G d S).bind fun S1 => (p S1).bind fun x => match x.1 with
    | .nx => forM G p ds x.2
    | .ct => forM G p ds x.2
    | .bk => some (.nx, x.2)
    | .rt v => some (.rt v, x.2) := rfl
@[simp] theorem cLc_ap {vs : List Nat} : cLc a G t f vs S = (a S).bind fun x => (lcM G t f vs x.1 [] x.2).bind fun y => some (.lst y.1, y.2) := rfl
/-! operations -/
@[simp] theorem gAdd_int {x y : Int} : gAdd (.int x) (.int y) = some (.int (x + y)) := rfl
@[simp] theorem gAdd_str {x y : Str} : gAdd (.str x) (.str y) = if x.length + y.length ≤ LIM then some (.str (x ++ y)) else none := by
  show ((gAddI _ _).or ((gAddS _ _).or ((gAddL _ _).or (gAddT _ _)))) = _
  simp only [gAddI, gAddS, gAddL, gAddT]; split <;> rfl
@[simp] theorem gAdd_lst {x y : List D} : gAdd (.lst x) (.lst y) = if x.length + y.length ≤ LIM then some (.lst (x ++ y)) else none := by
  show ((gAddI _ _).or ((gAddS _ _).or ((gAddL _ _).or (gAddT _ _)))) = _
  simp only [gAddI, gAddS, gAddL, gAddT]; split <;> rfl
@[simp] theorem gAdd_tup {x y : List D} : gAdd (.tup x) (.tup y) = if x.length + y.length ≤ LIM then some (.tup (x ++ y)) else none := by
  show ((gAddI _ _).or ((gAddS _ _).or ((gAddL _ _).or (gAddT _ _)))) = _
  simp only [gAddI, gAddS, gAddL, gAddT]; split <;> rfl
@[simp] theorem gSub_int {x y : Int} : gSub (.int x) (.int y) = some (.int (x - y)) := rfl
@[simp] theorem gMul_int {x y : Int} : gMul (.int x) (.int y) = if (-18446744073709551616 < x ∧ x < 18446744073709551616) ∨ (-18446744073709551616 < y ∧ y < 18446744073709551616) then some (.int (x * y)) else none := rfl
theorem gDiv_int {x y : Int} : gDiv (.int x) (.int y) = if 0 < y ∧ y < BDIV then some (.int (x / y)) else none := rfl
@[simp] theorem gDiv_ok {x y : Int} (h0 : 0 < y) (h : y < 100000000000000000000000000000000000000000000000000) : gDiv (.int x) (.int y) = some (.int (x / y)) := by
  rw [gDiv_int, if_pos ⟨h0, by unfold BDIV; exact h⟩]
@[simp] theorem gMod_int {x y : Int} : gMod (.int x) (.int y) = if 0 < y then some (.int (x % y)) else none := rfl
theorem gPow_int {x y : Int} : gPow (.int x) (.int y) = if 0 ≤ y ∧ y ≤ 1000000 ∧ -18446744073709551616 < x ∧ x < 18446744073709551616 then some (.int (x ^ y.toNat)) else none := rfl
@[simp] theorem gNeg_int {x : Int} : gNeg (.int x) = some (.int (-x)) := rfl
@[simp] theorem gLt_int {x y : Int} : gLt (.int x) (.int y) = some (.bl (decide (x < y))) := rfl
@[simp] theorem gLe_int {x y : Int} : gLe (.int x) (.int y) = some (.bl (decide (x ≤ y))) := rfl
@[simp] theorem gGt_int {x y : Int} : gGt (.int x) (.int y) = some (.bl (decide (y < x))) := rfl
@[simp] theorem gGe_int {x y : Int} : gGe (.int x) (.int y) = some (.bl (decide (y ≤ x))) := rfl
theorem shaped_int {x : Int} : SeqAt.shaped (.int x) = true := by simp [SeqAt.shaped, PyData.canLay0, PyData.depth]
theorem shaped_str {x : Str} (h : PyData.strOk x = true) : SeqAt.shaped (.str x) = true := by simp [SeqAt.shaped, PyData.canLay0, PyData.depth, h]
theorem shaped_bool {x : Bool} : SeqAt.shaped (.bool x) = true := by simp [SeqAt.shaped, PyData.canLay0, PyData.depth]
theorem shaped_none : SeqAt.shaped .none = true := by simp [SeqAt.shaped, PyData.canLay0, PyData.depth]
@[simp] theorem eqD_int {x y : Int} : eqD (.int x) (.int y) = some (decide (x = y)) := by
  simp [eqD, toPy, shaped_int, PyData.eqv, Bool.beq_eq_decide_eq]
@[simp] theorem eqD_str {x y : Str} (hx : PyData.strOk x = true) (hy : PyData.strOk y = true) : eqD (.str x) (.str y) = some (decide (x = y)) := by
  simp [eqD, toPy, shaped_str hx, shaped_str hy, PyData.eqv, Bool.beq_eq_decide_eq]
@[simp] theorem eqD_bl {x y : Bool} : eqD (.bl x) (.bl y) = some (decide (x = y)) := by
  simp [eqD, toPy, shaped_bool, PyData.eqv, Bool.beq_eq_decide_eq]
@[simp] theorem gEq_ap : gEq d e = (eqD d e).bind fun b => some (.bl b) := rfl
@[simp] theorem gNe_ap : gNe d e = (eqD d e).bind fun b => some (.bl (!b)) := rfl
@[simp] theorem gIx_tup {ds : List D} {x : Int} : gIx (.tup ds) (.int x) = atI ds x := rfl
@[simp] theorem gIx_lst {ds : List D} {x : Int} : gIx (.lst ds) (.int x) = atI ds x := rfl
@[simp] theorem gIx_sc {ds : List D} {x : Int} : gIx (.sc ds) (.int x) = atI ds x := rfl
@[simp] theorem gLen_lst {ds : List D} : gLen (.lst ds) = some (.int ds.length) := rfl
@[simp] theorem gLen_tup {ds : List D} : gLen (.tup ds) = some (.int ds.length) := rfl
@[simp] theorem gLen_sc {ds : List D} : gLen (.sc ds) = some (.int ds.length) := rfl
@[simp] theorem gInt_int {x : Int} : gInt (.int x) = some (.int x) := rfl
@[simp] theorem gInt_bl {x : Bool} : gInt (.bl x) = some (.int (if x then 1 else 0)) := rfl
@[simp] theorem gAbs_int {x : Int} : gAbs (.int x) = some (.int (if x < 0 then -x else x)) := rfl
@[simp] theorem gMax2_int {x y : Int} : gMax2 [.int x, .int y] = some (.int (if y > x then y else x)) := rfl
@[simp] theorem gMin2_int {x y : Int} : gMin2 [.int x, .int y] = some (.int (if y < x then y else x)) := rfl
@[simp] theorem gList_lst {ds : List D} : gList (.lst ds) = some (.lst ds) := rfl
@[simp] theorem gList_tup {ds : List D} : gList (.tup ds) = some (.lst ds) := rfl
@[simp] theorem gList_sc {ds : List D} : gList (.sc ds) = some (.lst ds) := rfl
@[simp] theorem gTuple_lst {ds : List D} : gTuple (.lst ds) = some (.tup ds) := rfl
@[simp] theorem gTuple_tup {ds : List D} : gTuple (.tup ds) = some (.tup ds) := rfl
@[simp] theorem gTuple_sc {ds : List D} : gTuple (.sc ds) = some (.tup ds) := rfl
@[simp] theorem gTru_bl {x : Bool} : gTru (.bl x) = some x := rfl
@[simp] theorem gTru_int {x : Int} : gTru (.int x) = some (x != 0) := rfl
@[simp] theorem gTru_lst {ds : List D} : gTru (.lst ds) = some (!ds.isEmpty) := rfl
@[simp] theorem gTru_tup {ds : List D} : gTru (.tup ds) = some (!ds.isEmpty) := rfl
@[simp] theorem gTru_non : gTru .non = some false := rfl
@[simp] theorem isN_non : gIsN .non .non = some (.bl true) := rfl
@[simp] theorem isN_int {x} : gIsN (.int x) .non = some (.bl false) := rfl
@[simp] theorem isN_bl {x} : gIsN (.bl x) .non = some (.bl false) := rfl
@[simp] theorem isN_str {x} : gIsN (.str x) .non = some (.bl false) := rfl
@[simp] theorem isN_tup {x} : gIsN (.tup x) .non = some (.bl false) := rfl
@[simp] theorem isN_lst {x} : gIsN (.lst x) .non = some (.bl false) := rfl
@[simp] theorem notN_ap : gNotN d e = (gIsN d e).bind fun z => match z with | .bl b => some (.bl (!b)) | _ => none := rfl
@[simp] theorem gSl3_lst {ds : List D} {l r : Option Int} : gSl3 (.lst ds) l r = some (.lst (cutD ds l r)) := rfl
@[simp] theorem gSl3_tup {ds : List D} {l r : Option Int} : gSl3 (.tup ds) l r = some (.tup (cutD ds l r)) := rfl
@[simp] theorem gSlL_lst {ds : List D} {l r : Option Int} : gSlL (.lst ds) l r = some (.lst (cutD ds l r)) := rfl
end
theorem fnM_ap {N : Nat} {b : SF} {ds : List D} {m : List Cell} : fnM N b ds m = (b ⟨ds.map Slot.val ++ List.replicate (N - ds.length) .emp, m⟩).bind fun p => match p.1 with
  | .rt d => some (d, p.2.m)
  | .nx => some (.non, p.2.m)
  | _ => none := rfl
/-! places -/
theorem ixN_nat {n i : Nat} (h : i < n) : ixN n (i : Int) = some i := by
  unfold ixN
  rw [if_pos (Int.natCast_nonneg _), if_pos (by omega)]
  simp
theorem ixN_pos {n : Nat} {i : Int} (h0 : 0 ≤ i) (h : i < n) : ixN n i = some i.toNat := by
  unfold ixN
  rw [if_pos h0, if_pos h]
theorem atI_pos {α : Type} {xs : List α} {i : Int} (h0 : 0 ≤ i) (h : i < xs.length) : atI xs i = xs[i.toNat]? := by
  unfold atI
  rw [ixN_pos h0 h]; rfl
@[simp] theorem atI_0 {α : Type} {x : α} {xs : List α} : atI (x :: xs) 0 = some x := by
  rw [atI_pos (by decide) (by simp only [List.length_cons]; omega)]; rfl
@[simp] theorem atI_1 {α : Type} {x y : α} {xs : List α} : atI (x :: y :: xs) 1 = some y := by
  rw [atI_pos (by decide) (by simp only [List.length_cons]; omega)]; rfl
@[simp] theorem atI_2 {α : Type} {x y z : α} {xs : List α} : atI (x :: y :: z :: xs) 2 = some z := by
  rw [atI_pos (by decide) (by simp only [List.length_cons]; omega)]; rfl
@[simp] theorem atI_3 {α : Type} {x y z w : α} {xs : List α} : atI (x :: y :: z :: w :: xs) 3 = some w := by
  rw [atI_pos (by decide) (by simp only [List.length_cons]; omega)]; rfl
@[simp] theorem atI_4 {α : Type} {x0 x1 x2 x3 x4 : α} {xs : List α} : atI (x0 :: x1 :: x2 :: x3 :: x4 :: xs) 4 = some x4 := by
  rw [atI_pos (by decide) (by simp only [List.length_cons]; omega)]; rfl
@[simp] theorem atI_5 {α : Type} {x0 x1 x2 x3 x4 x5 : α} {xs : List α} : atI (x0 :: x1 :: x2 :: x3 :: x4 :: x5 :: xs) 5 = some x5 := by
  rw [atI_pos (by decide) (by simp only [List.length_cons]; omega)]; rfl
@[simp] theorem atI_6 {α : Type} {x0 x1 x2 x3 x4 x5 x6 : α} {xs : List α} : atI (x0 :: x1 :: x2 :: x3 :: x4 :: x5 :: x6 :: xs) 6 = some x6 := by
  rw [atI_pos (by decide) (by simp only [List.length_cons]; omega)]; rfl
@[simp] theorem atI_7 {α : Type} {x0 x1 x2 x3 x4 x5 x6 x7 : α} {xs : List α} : atI (x0 :: x1 :: x2 :: x3 :: x4 :: x5 :: x6 :: x7 :: xs) 7 = some x7 := by
  rw [atI_pos (by decide) (by simp only [List.length_cons]; omega)]; rfl
@[simp] theorem atI_8 {α : Type} {x0 x1 x2 x3 x4 x5 x6 x7 x8 : α} {xs : List α} : atI (x0 :: x1 :: x2 :: x3 :: x4 :: x5 :: x6 :: x7 :: x8 :: xs) 8 = some x8 := by
  rw [atI_pos (by decide) (by simp only [List.length_cons]; omega)]; rfl
@[simp] theorem atI_9 {α : Type} {x0 x1 x2 x3 x4 x5 x6 x7 x8 x9 : α} {xs : List α} : atI (x0 :: x1 :: x2 :: x3 :: x4 :: x5 :: x6 :: x7 :: x8 :: x9 :: xs) 9 = some x9 := by
  rw [atI_pos (by decide) (by simp only [List.length_cons]; omega)]; rfl
@[simp] theorem atI_10 {α : Type} {x0 x1 x2 x3 x4 x5 x6 x7 x8 x9 x10 : α} {xs : List α} : atI (x0 :: x1 :: x2 :: x3 :: x4 :: x5 :: x6 :: x7 :: x8 :: x9 :: x10 :: xs) 10 = some x10 := by
  rw [atI_pos (by decide) (by simp only [List.length_cons]; omega)]; rfl
@[simp] theorem atI_11 {α : Type} {x0 x1 x2 x3 x4 x5 x6 x7 x8 x9 x10 x11 : α} {xs : List α} : atI (x0 :: x1 :: x2 :: x3 :: x4 :: x5 :: x6 :: x7 :: x8 :: x9 :: x10 :: x11 :: xs) 11 = some x11 := by
  rw [atI_pos (by decide) (by simp only [List.length_cons]; omega)]; rfl
theorem lim_ok {n : Nat} (h : n ≤ 1000000) : n ≤ LIM := h
@[simp] theorem LIM_eq : LIM = 1000000 := rfl
end M

/-! M7: data of a known kind: == of it; isinstance. -/
namespace M
open PySem PySem.Spec L2
/-- == of such data is equality; n bounds the depth -/
structure Ek {α : Type} [DecidableEq α] (e : α → D) (n : Nat) : Prop where
  py : ∀ x, ∃ p, toPy (e x) = some p ∧ PyData.canLay0 p = true ∧ PyData.depth p ≤ n
  eq : ∀ x y p q, toPy (e x) = some p → toPy (e y) = some q → PyData.eqv p q = decide (x = y)
section
variable {α β γ : Type} [DecidableEq α] [DecidableEq β] [DecidableEq γ] {e : α → D} {f : β → D} {g : γ → D} {n k l : Nat}
theorem Ek.eqD (h : Ek e n) (hn : n ≤ 64) (x y : α) : eqD (e x) (e y) = some (decide (x = y)) := by
  obtain ⟨p, h1, h2, h3⟩ := h.py x
  obtain ⟨q, g1, g2, g3⟩ := h.py y
  unfold M.eqD
  rw [h1, g1]
  show (if SeqAt.shaped p = true ∧ SeqAt.shaped q = true then some (PyData.eqv p q) else none) = _
  rw [if_pos ⟨by unfold SeqAt.shaped; rw [h2, decide_eq_true (by omega : p.depth ≤ 64)]; rfl, by unfold SeqAt.shaped; rw [g2, decide_eq_true (by omega : q.depth ≤ 64)]; rfl⟩, h.eq x y p q h1 g1]
theorem ek_int : Ek D.int 1 := ⟨fun x => ⟨.int x, rfl, rfl, by simp [PyData.depth]⟩, fun x y p q h1 h2 => by cases h1; cases h2; simp [PyData.eqv, Bool.beq_eq_decide_eq]⟩
theorem ek_bl : Ek D.bl 1 := ⟨fun x => ⟨.bool x, rfl, rfl, by simp [PyData.depth]⟩, fun x y p q h1 h2 => by cases h1; cases h2; simp [PyData.eqv, Bool.beq_eq_decide_eq]⟩
/-- texts that are texts -/
abbrev SOk := { x : Str // PyData.strOk x = true }
theorem ek_str : Ek (fun x : SOk => D.str x.1) 1 := ⟨fun x => ⟨.str x.1, rfl, by simp [PyData.canLay0, x.2], by simp [PyData.depth]⟩, fun x y p q h1 h2 => by cases h1; cases h2; simp [PyData.eqv, Bool.beq_eq_decide_eq, Subtype.ext_iff]⟩
theorem ek_all (h : Ek e n) : (∀ xs : List α, ∃ ps, toPys (xs.map e) = some ps ∧ PyData.canLayAll0 ps = true ∧ PyData.depthAll ps ≤ n) ∧ ∀ (xs ys : List α) ps qs, toPys (xs.map e) = some ps → toPys (ys.map e) = some qs → PyData.eqvAll ps qs = decide (xs = ys) := by
  constructor
  · intro xs
    induction xs with
    | nil => exact ⟨[], rfl, rfl, by simp [PyData.depthAll]⟩
    | cons x xs ih =>
      obtain ⟨ps, h1, h2, h3⟩ := ih
      obtain ⟨p, g1, g2, g3⟩ := h.py x
      refine ⟨p :: ps, by simp [toPys, g1, h1], by simp [PyData.canLayAll0, g2, h2], ?_⟩
      simp only [PyData.depthAll]
      omega
  · intro xs
    induction xs with
    | nil =>
      intro ys ps qs h1 h2
      cases h1
      cases ys with
      | nil => cases h2; rfl
      | cons y ys =>
        simp only [List.map_cons, toPys] at h2
        obtain ⟨q, e1, h2⟩ := bind_some h2
        obtain ⟨qs', e2, h2⟩ := bind_some h2
        cases h2
        simp [PyData.eqvAll]
    | cons x xs ih =>
      intro ys ps qs h1 h2
      simp only [List.map_cons, toPys] at h1
      obtain ⟨p, e1, h1⟩ := bind_some h1
      obtain ⟨ps', e2, h1⟩ := bind_some h1
      cases h1
      cases ys with
      | nil => cases h2; simp [PyData.eqvAll]
      | cons y ys =>
        simp only [List.map_cons, toPys] at h2
        obtain ⟨q, e3, h2⟩ := bind_some h2
        obtain ⟨qs', e4, h2⟩ := bind_some h2
        cases h2
        simp only [PyData.eqvAll]
        rw [h.eq x y p q e1 e3, ih ys ps' qs' e2 e4]
        by_cases a : x = y <;> by_cases b : xs = ys <;> simp [a, b]
theorem ek_lst (h : Ek e n) : Ek (fun xs : List α => D.lst (xs.map e)) (n + 1) := by
  obtain ⟨h1, h2⟩ := ek_all h
  refine ⟨fun xs => ?_, fun xs ys p q e1 e2 => ?_⟩
  · obtain ⟨ps, a, b, c⟩ := h1 xs
    exact ⟨.list ps, by simp [toPy, a], by simpa [PyData.canLay0] using b, by simp only [PyData.depth]; omega⟩
  · simp only [toPy, Option.map_eq_some_iff] at e1 e2
    obtain ⟨ps, a, rfl⟩ := e1
    obtain ⟨qs, b, rfl⟩ := e2
    simpa [PyData.eqv] using h2 xs ys ps qs a b
theorem ek_tps (h : Ek e n) : Ek (fun xs : List α => D.tup (xs.map e)) (n + 1) := by
  obtain ⟨h1, h2⟩ := ek_all h
  refine ⟨fun xs => ?_, fun xs ys p q e1 e2 => ?_⟩
  · obtain ⟨ps, a, b, c⟩ := h1 xs
    exact ⟨.tuple ps, by simp [toPy, a], by simpa [PyData.canLay0] using b, by simp only [PyData.depth]; omega⟩
  · simp only [toPy, Option.map_eq_some_iff] at e1 e2
    obtain ⟨ps, a, rfl⟩ := e1
    obtain ⟨qs, b, rfl⟩ := e2
    simpa [PyData.eqv] using h2 xs ys ps qs a b
theorem ek_t2 (h1 : Ek e n) (h2 : Ek f k) : Ek (fun x : α × β => D.tup [e x.1, f x.2]) (max n k + 1) := by
  refine ⟨fun x => ?_, fun x y p q e1 e2 => ?_⟩
  · obtain ⟨p, a, b, c⟩ := h1.py x.1
    obtain ⟨p', a', b', c'⟩ := h2.py x.2
    refine ⟨.tuple [p, p'], by simp [toPy, toPys, a, a'], by simp [PyData.canLay0, PyData.canLayAll0, b, b'], ?_⟩
    simp only [PyData.depth, PyData.depthAll]
    omega
  · obtain ⟨p1, a1, _⟩ := h1.py x.1
    obtain ⟨p2, a2, _⟩ := h2.py x.2
    obtain ⟨q1, b1, _⟩ := h1.py y.1
    obtain ⟨q2, b2, _⟩ := h2.py y.2
    simp only [toPy, toPys, a1, a2, b1, b2, Option.bind_some, Option.map_some, Option.some.injEq] at e1 e2
    subst e1; subst e2
    obtain ⟨x1, x2⟩ := x
    obtain ⟨y1, y2⟩ := y
    simp only [PyData.eqv, PyData.eqvAll, h1.eq _ _ _ _ a1 b1, h2.eq _ _ _ _ a2 b2, Bool.and_true]
    by_cases a : x1 = y1 <;> by_cases b : x2 = y2 <;> simp [a, b]
theorem ek_t3 (h1 : Ek e n) (h2 : Ek f k) (h3 : Ek g l) : Ek (fun x : α × β × γ => D.tup [e x.1, f x.2.1, g x.2.2]) (max n (max k l) + 1) := by
  refine ⟨fun x => ?_, fun x y p q e1 e2 => ?_⟩
  · obtain ⟨p, a, b, c⟩ := h1.py x.1
    obtain ⟨p', a', b', c'⟩ := h2.py x.2.1
    obtain ⟨p'', a'', b'', c''⟩ := h3.py x.2.2
    refine ⟨.tuple [p, p', p''], by simp [toPy, toPys, a, a', a''], by simp [PyData.canLay0, PyData.canLayAll0, b, b', b''], ?_⟩
    simp only [PyData.depth, PyData.depthAll]
    omega
  · obtain ⟨p1, a1, _⟩ := h1.py x.1
    obtain ⟨p2, a2, _⟩ := h2.py x.2.1
    obtain ⟨p3, a3, _⟩ := h3.py x.2.2
    obtain ⟨q1, b1, _⟩ := h1.py y.1
    obtain ⟨q2, b2, _⟩ := h2.py y.2.1
    obtain ⟨q3, b3, _⟩ := h3.py y.2.2
    simp only [toPy, toPys, a1, a2, a3, b1, b2, b3, Option.bind_some, Option.map_some, Option.some.injEq] at e1 e2
    subst e1; subst e2
    obtain ⟨x1, x2, x3⟩ := x
    obtain ⟨y1, y2, y3⟩ := y
    simp only [PyData.eqv, PyData.eqvAll, h1.eq _ _ _ _ a1 b1, h2.eq _ _ _ _ a2 b2, h3.eq _ _ _ _ a3 b3, Bool.and_true]
    by_cases a : x1 = y1 <;> by_cases b : x2 = y2 <;> by_cases c : x3 = y3 <;> simp [a, b, c]
end
/-! isinstance -/
theorem isi_of {T n : String} {d : D} {b : Bool} (h1 : tyName d = some n) (h2 : kitB n T = some b) : gIsi T d = some (.bl b) := by
  unfold gIsi
  rw [h1]
  show (kitB n T).bind _ = _
  rw [h2]; rfl
@[simp] theorem isi_non_int  : gIsi "int" .non = some (.bl false) := isi_of (n := "NoneType") rfl (by decide +kernel)
@[simp] theorem isi_non_bool  : gIsi "bool" .non = some (.bl false) := isi_of (n := "NoneType") rfl (by decide +kernel)
@[simp] theorem isi_non_str  : gIsi "str" .non = some (.bl false) := isi_of (n := "NoneType") rfl (by decide +kernel)
@[simp] theorem isi_non_list  : gIsi "list" .non = some (.bl false) := isi_of (n := "NoneType") rfl (by decide +kernel)
@[simp] theorem isi_non_tuple  : gIsi "tuple" .non = some (.bl false) := isi_of (n := "NoneType") rfl (by decide +kernel)
@[simp] theorem isi_non_dict  : gIsi "dict" .non = some (.bl false) := isi_of (n := "NoneType") rfl (by decide +kernel)
@[simp] theorem isi_bl_int {x : Bool} : gIsi "int" (.bl x) = some (.bl true) := isi_of (n := "bool") rfl (by decide +kernel)
@[simp] theorem isi_bl_bool {x : Bool} : gIsi "bool" (.bl x) = some (.bl true) := isi_of (n := "bool") rfl (by decide +kernel)
@[simp] theorem isi_bl_str {x : Bool} : gIsi "str" (.bl x) = some (.bl false) := isi_of (n := "bool") rfl (by decide +kernel)
@[simp] theorem isi_bl_list {x : Bool} : gIsi "list" (.bl x) = some (.bl false) := isi_of (n := "bool") rfl (by decide +kernel)
@[simp] theorem isi_bl_tuple {x : Bool} : gIsi "tuple" (.bl x) = some (.bl false) := isi_of (n := "bool") rfl (by decide +kernel)
@[simp] theorem isi_bl_dict {x : Bool} : gIsi "dict" (.bl x) = some (.bl false) := isi_of (n := "bool") rfl (by decide +kernel)
@[simp] theorem isi_int_int {x : Int} : gIsi "int" (.int x) = some (.bl true) := isi_of (n := "int") rfl (by decide +kernel)
@[simp] theorem isi_int_bool {x : Int} : gIsi "bool" (.int x) = some (.bl false) := isi_of (n := "int") rfl (by decide +kernel)
@[simp] theorem isi_int_str {x : Int} : gIsi "str" (.int x) = some (.bl false) := isi_of (n := "int") rfl (by decide +kernel)
@[simp] theorem isi_int_list {x : Int} : gIsi "list" (.int x) = some (.bl false) := isi_of (n := "int") rfl (by decide +kernel)
@[simp] theorem isi_int_tuple {x : Int} : gIsi "tuple" (.int x) = some (.bl false) := isi_of (n := "int") rfl (by decide +kernel)
@[simp] theorem isi_int_dict {x : Int} : gIsi "dict" (.int x) = some (.bl false) := isi_of (n := "int") rfl (by decide +kernel)
@[simp] theorem isi_str_int {x : Str} : gIsi "int" (.str x) = some (.bl false) := isi_of (n := "str") rfl (by decide +kernel)
@[simp] theorem isi_str_bool {x : Str} : gIsi "bool" (.str x) = some (.bl false) := isi_of (n := "str") rfl (by decide +kernel)
@[simp] theorem isi_str_str {x : Str} : gIsi "str" (.str x) = some (.bl true) := isi_of (n := "str") rfl (by decide +kernel)
@[simp] theorem isi_str_list {x : Str} : gIsi "list" (.str x) = some (.bl false) := isi_of (n := "str") rfl (by decide +kernel)
@[simp] theorem isi_str_tuple {x : Str} : gIsi "tuple" (.str x) = some (.bl false) := isi_of (n := "str") rfl (by decide +kernel)
@[simp] theorem isi_str_dict {x : Str} : gIsi "dict" (.str x) = some (.bl false) := isi_of (n := "str") rfl (by decide +kernel)
@[simp] theorem isi_tup_int {x : List D} : gIsi "int" (.tup x) = some (.bl false) := isi_of (n := "tuple") rfl (by decide +kernel)
@[simp] theorem isi_tup_bool {x : List D} : gIsi "bool" (.tup x) = some (.bl false) := isi_of (n := "tuple") rfl (by decide +kernel)
@[simp] theorem isi_tup_str {x : List D} : gIsi "str" (.tup x) = some (.bl false) := isi_of (n := "tuple") rfl (by decide +kernel)
@[simp] theorem isi_tup_list {x : List D} : gIsi "list" (.tup x) = some (.bl false) := isi_of (n := "tuple") rfl (by decide +kernel)
@[simp] theorem isi_tup_tuple {x : List D} : gIsi "tuple" (.tup x) = some (.bl true) := isi_of (n := "tuple") rfl (by decide +kernel)
@[simp] theorem isi_tup_dict {x : List D} : gIsi "dict" (.tup x) = some (.bl false) := isi_of (n := "tuple") rfl (by decide +kernel)
@[simp] theorem isi_lst_int {x : List D} : gIsi "int" (.lst x) = some (.bl false) := isi_of (n := "list") rfl (by decide +kernel)
@[simp] theorem isi_lst_bool {x : List D} : gIsi "bool" (.lst x) = some (.bl false) := isi_of (n := "list") rfl (by decide +kernel)
@[simp] theorem isi_lst_str {x : List D} : gIsi "str" (.lst x) = some (.bl false) := isi_of (n := "list") rfl (by decide +kernel)
@[simp] theorem isi_lst_list {x : List D} : gIsi "list" (.lst x) = some (.bl true) := isi_of (n := "list") rfl (by decide +kernel)
@[simp] theorem isi_lst_tuple {x : List D} : gIsi "tuple" (.lst x) = some (.bl false) := isi_of (n := "list") rfl (by decide +kernel)
@[simp] theorem isi_lst_dict {x : List D} : gIsi "dict" (.lst x) = some (.bl false) := isi_of (n := "list") rfl (by decide +kernel)
end M

/-! more methods of own lists: pop at a place, insert, index; is and is not of truths -/
namespace M
open PySem PySem.Spec L2
theorem opq {p : Prop} (h : p) : p := h
section
variable {X : Cx} {x : Str} {xp pos : Pos} {e e2 : Expr} {fe fe2 : EF}
def posAt (i : Int) (n : Nat) : Option Nat := if -1000000 ≤ i ∧ i ≤ 1000000 then seqIndex? i n else none
def ePopAt (i : Nat) (f : EF) : EF := fun S => if isL i S then (f S).bind fun p => match p.1 with
    | .int j => (sees i p.2).bind fun d => match d with
      | .lst ds => (posAt j ds.length).bind fun k => (ds[k]?).bind fun z => (modL i (fun ds => some (ds.eraseIdx k)) p.2).bind fun S' => some (z, S')
      | _ => none
    | _ => none
  else none
def eIns (i : Nat) (f g : EF) : EF := fun S => if isL i S then (f S).bind fun p => (g p.2).bind fun q => match p.1 with
    | .int j => if 0 ≤ j ∧ j ≤ 1000000 then (modL i (fun ds => if ds.length < LIM then some (ds.take j.toNat ++ [q.1] ++ ds.drop j.toNat) else none) q.2).bind fun S' => some (.non, S') else none
    | _ => none
  else none
theorem RVs_take {K : PySem.W.Frag} {F : Hp} {io : List Addr} : ∀ {vs : List V} {ds : List D} (n : Nat), RVs K F io vs ds → RVs K F io (vs.take n) (ds.take n)
  | _, _, 0, _ => by simp; exact .nil
  | _, _, n + 1, .nil => .nil
  | _, _, n + 1, .cons h t => .cons h (RVs_take n t)
theorem RVs_drop {K : PySem.W.Frag} {F : Hp} {io : List Addr} : ∀ {vs : List V} {ds : List D} (n : Nat), RVs K F io vs ds → RVs K F io (vs.drop n) (ds.drop n)
  | _, _, 0, h => h
  | _, _, n + 1, .nil => .nil
  | _, _, n + 1, .cons h t => RVs_drop n t
theorem RVs_erase {K : PySem.W.Frag} {F : Hp} {io : List Addr} : ∀ {vs : List V} {ds : List D} (n : Nat), RVs K F io vs ds → RVs K F io (vs.eraseIdx n) (ds.eraseIdx n)
  | _, _, _, .nil => .nil
  | _, _, 0, .cons h t => t
  | _, _, n + 1, .cons h t => .cons h (RVs_erase n t)
theorem me_popAt (i : Nat) {apos : Pos} (he : ME X e fe) (hN : X.N[i]? = some x := by rfl) (hv : Vis X.env.scope x := by first | exact Or.inl rfl | exact Or.inr (Or.inl rfl) | exact Or.inr (Or.inr rfl))
    (hd : (x == ("__debug__" : Str)) = false := by decide) (hcd : (x == ("__classdict__" : Str)) = false := by decide)
    (hbase : attributeBase (.Name x xp) "pop" X.env (eval (.Name x xp) X.env) = eval (.Name x xp) X.env := by rfl)
    (hfew : ((backTo pos (starEach [e] X.env)).all (fun x => !x.1) && (backToKw pos (keywordEach [] X.env)).all (fun x => x.1.isSome)
      && decide ([e].length + ([] : List Keyword).length + (if ([] : List Keyword).isEmpty then 0 else 1) < 30)) = true := by rfl)
    (hline : (apos.endLine == pos.line) = true := by rfl) (hs : starEach [e] X.env = (false, eval e X.env) :: starEach [] X.env := by rfl) (hplain : (backTo pos (starEach [] X.env)).any (·.1) = false := by rfl) :
    ME X (.Call (.Attribute (.Name x xp) "pop" apos) [e] [] pos) (ePopAt i fe) := by
  obtain ⟨t, p, q⟩ := he
  refine ⟨_, pe_bm PySem.F.plainAttrs_list PySem.F.slot_list_pop PySem.F.type_list_pop mt_popAt (pe_var hN hv hd hcd) (pa_cons p pa_nil hs) hbase hfew hline hs hplain, fun S d S' h W s Q R k => ?_⟩
  unfold ePopAt at h
  split at h
  · rename_i hh
    obtain ⟨⟨d1, S1⟩, e1, h⟩ := bind_some h
    simp only at h
    split at h
    · rename_i j
      obtain ⟨d2, ed, h⟩ := bind_some h
      split at h
      · rename_i ds0
        obtain ⟨kk0, ek, h⟩ := bind_some h
        obtain ⟨z, ez, h⟩ := bind_some h
        obtain ⟨S2, e2, h⟩ := bind_some h
        cases h
        obtain ⟨u, eu, ty⟩ := isL_ok R hh
        refine ⟨u, eu, ty, ?_⟩
        refine q S _ _ e1 W s _ R fun y W1 R1 f1 r1 => ?_
        cases r1.int_inv
        obtain ⟨a, ds, es, vs, e3, e5, e4, h1, h2, kk⟩ := modL_ok R1 e2
        rw [eu] at e3; cases e3
        rw [ed] at e5; cases e5
        cases e4
        unfold posAt at ek
        split at ek
        · rename_i hb
          obtain ⟨R2, f2⟩ := kk _ (RVs_erase kk0 h2)
          obtain ⟨v, ev, rv⟩ := h2.get ez
          exact ⟨a, vs, j, kk0, v, rfl, rfl, h1, by omega, by omega, by rw [h2.length]; exact ek, ev, k v _ R2 (f1.trans f2) (rv.up f2)⟩
        · cases ek
      · cases h
    · cases h
  · cases h
theorem me_ins (i : Nat) {apos : Pos} (he : ME X e fe) (he2 : ME X e2 fe2) (hN : X.N[i]? = some x := by rfl) (hv : Vis X.env.scope x := by first | exact Or.inl rfl | exact Or.inr (Or.inl rfl) | exact Or.inr (Or.inr rfl))
    (hd : (x == ("__debug__" : Str)) = false := by decide) (hcd : (x == ("__classdict__" : Str)) = false := by decide)
    (hbase : attributeBase (.Name x xp) "insert" X.env (eval (.Name x xp) X.env) = eval (.Name x xp) X.env := by rfl)
    (hfew : ((backTo pos (starEach [e, e2] X.env)).all (fun x => !x.1) && (backToKw pos (keywordEach [] X.env)).all (fun x => x.1.isSome)
      && decide ([e, e2].length + ([] : List Keyword).length + (if ([] : List Keyword).isEmpty then 0 else 1) < 30)) = true := by rfl)
    (hline : (apos.endLine == pos.line) = true := by rfl) (hs : starEach [e, e2] X.env = (false, eval e X.env) :: starEach [e2] X.env := by rfl) (hs2 : starEach [e2] X.env = (false, eval e2 X.env) :: starEach [] X.env := by rfl) (hplain : (backTo pos (starEach [e2] X.env)).any (·.1) = false := by rfl) :
    ME X (.Call (.Attribute (.Name x xp) "insert" apos) [e, e2] [] pos) (eIns i fe fe2) := by
  obtain ⟨t, p, q⟩ := he
  obtain ⟨t2, p2, q2⟩ := he2
  refine ⟨_, pe_bm PySem.F.plainAttrs_list PySem.F.slot_list_insert PySem.F.type_list_insert mt_insert (pe_var hN hv hd hcd) (pa_cons p (pa_cons p2 pa_nil hs2) hs) hbase hfew hline hs hplain, fun S d S' h W s Q R k => ?_⟩
  unfold eIns at h
  split at h
  · rename_i hh
    obtain ⟨⟨d1, S1⟩, e1, h⟩ := bind_some h
    obtain ⟨⟨d2, S2⟩, e3, h⟩ := bind_some h
    simp only at h
    split at h
    · rename_i j dj
      split at h
      · rename_i hb
        obtain ⟨S3, e4, h⟩ := bind_some h
        cases h
        obtain ⟨u, eu, ty⟩ := isL_ok R hh
        refine ⟨u, eu, ty, ?_⟩
        refine q S _ _ e1 W s _ R fun y W1 R1 f1 r1 => ?_
        cases r1.int_inv
        refine q2 S1 _ _ e3 W1 s _ R1 fun y2 W2 R2 f2 r2 => ?_
        obtain ⟨a, ds, es, vs, e5, _, e6, h1, h2, kk⟩ := modL_ok R2 e4
        rw [eu] at e5; cases e5
        split at e6
        · rename_i c
          cases e6
          obtain ⟨R3, f3⟩ := kk _ (((RVs_take j.toNat h2).append (.cons r2 .nil)).append (RVs_drop j.toNat h2))
          exact ⟨a, vs, j, y2, rfl, rfl, h1, by rw [h2.length]; exact Nat.lt_of_lt_of_le c lim_line, hb.1, by omega, k _ _ R3 ((f1.trans f2).trans f3) .non⟩
        · cases e6
      · cases h
    · cases h
  · cases h
def firstAt (ns : List Int) (y : Int) : Option Nat := if y ∈ ns then some (ns.findIdx (· == y)) else none
def eIdx (i : Nat) (f : EF) : EF := fun S => if isL i S then (f S).bind fun p => match p.1 with
    | .int y => (sees i p.2).bind fun d => match d with
      | .lst ds => (intsD ds).bind fun ns => (firstAt ns y).bind fun j => some (.int (j : Nat), p.2)
      | _ => none
    | _ => none
  else none
theorem me_idx (i : Nat) {apos : Pos} (he : ME X e fe) (hN : X.N[i]? = some x := by rfl) (hv : Vis X.env.scope x := by first | exact Or.inl rfl | exact Or.inr (Or.inl rfl) | exact Or.inr (Or.inr rfl))
    (hd : (x == ("__debug__" : Str)) = false := by decide) (hcd : (x == ("__classdict__" : Str)) = false := by decide)
    (hbase : attributeBase (.Name x xp) "index" X.env (eval (.Name x xp) X.env) = eval (.Name x xp) X.env := by rfl)
    (hfew : ((backTo pos (starEach [e] X.env)).all (fun x => !x.1) && (backToKw pos (keywordEach [] X.env)).all (fun x => x.1.isSome)
      && decide ([e].length + ([] : List Keyword).length + (if ([] : List Keyword).isEmpty then 0 else 1) < 30)) = true := by rfl)
    (hline : (apos.endLine == pos.line) = true := by rfl) (hs : starEach [e] X.env = (false, eval e X.env) :: starEach [] X.env := by rfl) (hplain : (backTo pos (starEach [] X.env)).any (·.1) = false := by rfl) :
    ME X (.Call (.Attribute (.Name x xp) "index" apos) [e] [] pos) (eIdx i fe) := by
  obtain ⟨t, p, q⟩ := he
  refine ⟨_, pe_bm PySem.F.plainAttrs_list PySem.F.slot_list_index PySem.F.type_list_index mt_index (pe_var hN hv hd hcd) (pa_cons p pa_nil hs) hbase hfew hline hs hplain, fun S d S' h W s Q R k => ?_⟩
  unfold eIdx at h
  split at h
  · rename_i hh
    obtain ⟨⟨d1, S1⟩, e1, h⟩ := bind_some h
    simp only at h
    split at h
    · rename_i y0
      obtain ⟨d2, ed, h⟩ := bind_some h
      split at h
      · rename_i ds0 _
        obtain ⟨ns, en, h⟩ := bind_some h
        obtain ⟨j, ej, h⟩ := bind_some h
        cases h
        obtain ⟨u, eu, ty⟩ := isL_ok R hh
        refine ⟨u, eu, ty, ?_⟩
        refine q S _ _ e1 W s _ R fun y W1 R1 f1 r1 => ?_
        cases r1.int_inv
        obtain ⟨v, e3, a, vs, rfl, h1, h2⟩ := R1.sees ed
        rw [eu] at e3; cases e3
        have hv := intsRv h2 en
        subst hv
        unfold firstAt at ej
        split at ej
        · rename_i hm
          cases ej
          have hl : ns.findIdx (· == y0) < ns.length := List.findIdx_lt_length_of_exists ⟨y0, hm, by simp⟩
          have hz : ns[ns.findIdx (· == y0)]? = some y0 := by
            rw [List.getElem?_eq_getElem hl]
            have := List.findIdx_getElem (w := hl)
            simpa using this
          refine ⟨a, _, .int y0, _, .int y0, rfl, rfl, .of h1, rfl, by simp [flatV], by rw [List.getElem?_map, hz]; rfl, by simp [eqV], fun n z' hn hz' => ?_, k _ _ R1 f1 (.int _)⟩
          rw [List.getElem?_map] at hz'
          have hnl : n < ns.length := by omega
          rw [List.getElem?_eq_getElem hnl] at hz'
          cases hz'
          have := List.not_of_lt_findIdx hn
          simpa [eqV] using this
        · cases ej
      · cases h
    · cases h
  · cases h
/-- is, is not: with None, or of truths -/
def gIs : D → D → Option D
  | .bl a, .bl b => some (.bl (decide (a = b)))
  | _, _ => none
def gIsnt : D → D → Option D
  | .bl a, .bl b => some (.bl (!decide (a = b)))
  | _, _ => none
theorem oIs : OpM X (compareOp .Is) gIs := by
  refine ⟨_, op_is_bl, fun x y d e z hz W S s Q R rx ry k => ?_⟩
  cases d <;> cases e <;> first | cases hz | skip
  exact ⟨_, _, RV.bl_inv rx, RV.bl_inv ry, k _ W R .refl (.bl _)⟩
theorem oIsnt : OpM X (compareOp .IsNot) gIsnt := by
  refine ⟨_, op_isnot_bl, fun x y d e z hz W S s Q R rx ry k => ?_⟩
  cases d <;> cases e <;> first | cases hz | skip
  exact ⟨_, _, RV.bl_inv rx, RV.bl_inv ry, k _ W R .refl (.bl _)⟩
variable {S : Ms} {i : Nat} {f g : EF}
@[simp] theorem cSlV_ap {l h : OF} : cSlV i l h S = if held i S then (l S).bind fun q => (h q.2).bind fun r => (sees i r.2).bind fun d => (gSlL d q.1 r.1).bind fun z => some (z, r.2) else none := rfl
@[simp] theorem ePopAt_ap : ePopAt i f S = if isL i S then (f S).bind fun p => match p.1 with
    | .int j => (sees i p.2).bind fun d => match d with
      | .lst ds => (posAt j ds.length).bind fun k => (ds[k]?).bind fun z => (modL i (fun ds => some (ds.eraseIdx k)) p.2).bind fun S' => some (z, S')
      | _ => none
    | _ => none
  else none := rfl
@[simp] theorem eIns_ap : eIns i f g S = if isL i S then (f S).bind fun p => (g p.2).bind fun q => match p.1 with
    | .int j => if 0 ≤ j ∧ j ≤ 1000000 then (modL i (fun ds => if ds.length < LIM then some (ds.take j.toNat ++ [q.1] ++ ds.drop j.toNat) else none) q.2).bind fun S' => some (.non, S') else none
    | _ => none
  else none := rfl
@[simp] theorem eIdx_ap : eIdx i f S = if isL i S then (f S).bind fun p => match p.1 with
    | .int y => (sees i p.2).bind fun d => match d with
      | .lst ds => (intsD ds).bind fun ns => (firstAt ns y).bind fun j => some (.int (j : Nat), p.2)
      | _ => none
    | _ => none
  else none := rfl
@[simp] theorem gIs_bl {a b : Bool} : gIs (.bl a) (.bl b) = some (.bl (decide (a = b))) := rfl
@[simp] theorem gIsnt_bl {a b : Bool} : gIsnt (.bl a) (.bl b) = some (.bl (!decide (a = b))) := rfl
theorem lcM_nil {g : GF} {t : BF} {f : EF} {vs : List Nat} {acc : List D} {S : Ms} : lcM g t f vs [] acc S = some (acc, S) := rfl
theorem lcM_cons {g : GF} {t : BF} {f : EF} {vs : List Nat} {d : D} {ds acc : List D} {S : Ms} : lcM g t f vs (d :: ds) acc S = (g d ⟨wipeR S.r vs, S.m⟩).bind fun S1 => (t S1).bind fun p => if p.1 then (f p.2).bind fun q => if acc.length < LIM then lcM g t f vs ds (acc ++ [q.1]) ⟨restR S.r q.2.r vs, q.2.m⟩ else none
    else lcM g t f vs ds acc ⟨restR S.r p.2.r vs, p.2.m⟩ := rfl
/-- one turn of a comprehension -/
def stepC (g : GF) (t : BF) (f : EF) (vs : List Nat) (S : Ms) (d : D) : Option (Option D × Ms) := (g d ⟨wipeR S.r vs, S.m⟩).bind fun S1 => (t S1).bind fun p => if p.1 then (f p.2).bind fun q => some (some q.1, ⟨restR S.r q.2.r vs, q.2.m⟩)
    else some (none, ⟨restR S.r p.2.r vs, p.2.m⟩)
theorem lc_gen {α : Type} {g : GF} {t : BF} {f : EF} {vs : List Nat} {S : Ms} (enc : α → D) (F : α → Option D) : ∀ (xs : List α) (acc : List D), (∀ x ∈ xs, stepC g t f vs S (enc x) = some (F x, S)) → acc.length + xs.length ≤ 1000000 →
    lcM g t f vs (xs.map enc) acc S = some (acc ++ xs.filterMap F, S) := by
  intro xs
  induction xs with
  | nil => intro acc _ _; simp [lcM_nil]
  | cons x xs ih =>
    intro acc h hl
    have h1 := h x (by simp)
    have h2 : ∀ y ∈ xs, stepC g t f vs S (enc y) = some (F y, S) := fun y hy => h y (by simp [hy])
    simp only [List.length_cons] at hl
    rw [List.map_cons, lcM_cons]
    unfold stepC at h1
    obtain ⟨S1, e1, h1⟩ := bind_some h1
    obtain ⟨⟨b, S2⟩, e2, h1⟩ := bind_some h1
    rw [e1]
    simp only [Option.bind_some, e2]
    cases b with
    | true =>
      simp only [if_true] at h1 ⊢
      obtain ⟨⟨z, S3⟩, e3, h1⟩ := bind_some h1
      simp only [Option.some.injEq, Prod.mk.injEq] at h1
      obtain ⟨hF, hS⟩ := h1
      rw [e3]
      simp only [Option.bind_some]
      rw [if_pos (show acc.length < LIM by unfold LIM; omega)]
      rw [hS, ih _ h2 (by simp only [List.length_append, List.length_cons, List.length_nil]; omega)]
      rw [List.filterMap_cons, ← hF]
      simp
    | false =>
      simp only [Bool.false_eq_true, if_false, Option.some.injEq, Prod.mk.injEq] at h1 ⊢
      obtain ⟨hF, hS⟩ := h1
      rw [hS, ih _ h2 (by omega)]
      rw [List.filterMap_cons, ← hF]
theorem lc_map {α : Type} {g : GF} {t : BF} {f : EF} {vs : List Nat} {S : Ms} (enc : α → D) (F : α → D) (xs : List α) (h : ∀ x ∈ xs, stepC g t f vs S (enc x) = some (some (F x), S)) (hl : xs.length ≤ 1000000) :
    lcM g t f vs (xs.map enc) [] S = some (xs.map F, S) := by
  rw [lc_gen enc (fun x => some (F x)) xs [] h (by simpa using hl)]
  simp [List.filterMap_eq_map']
/-- a loop by an invariant of what is left -/
theorem forM_inv {α : Type} {g : GF} {b : SF} (enc : α → D) (Inv : List α → Ms → Prop) (h : ∀ x rest S, Inv (x :: rest) S → ∃ S1 S2, g (enc x) S = some S1 ∧ (b S1 = some (.nx, S2) ∨ b S1 = some (.ct, S2)) ∧ Inv rest S2) : ∀ (xs : List α) (S : Ms), Inv xs S →
    ∃ S', forM g b (xs.map enc) S = some (.nx, S') ∧ Inv [] S' := by
  intro xs
  induction xs with
  | nil => intro S i; exact ⟨S, rfl, i⟩
  | cons x xs ih =>
    intro S i
    obtain ⟨S1, S2, e1, e2, i2⟩ := h x xs S i
    obtain ⟨S', e, i'⟩ := ih S2 i2
    refine ⟨S', ?_, i'⟩
    rw [List.map_cons, forM_cons, e1]
    rcases e2 with e2 | e2 <;> simp [e2, e]
end
end M

/-! own classes: instances are cells; attributes, methods, making -/
namespace M
open PySem PySem.Spec L2
def putD (f : Str) (v : D) : List (Str × D) → List (Str × D)
  | [] => [(f, v)]
  | (g, x) :: r => if g = f then (g, v) :: r else (g, x) :: putD f v r
def lkD (f : Str) : List (Str × D) → Option D
  | [] => none
  | (g, x) :: r => if g = f then some x else lkD f r
section
variable {K : PySem.W.Frag} {W : Wd}
theorem RF.put {f : Str} {v : V} {d : D} (h : RV K W.F W.io v d) : ∀ {fv : List (Str × V)} {fd : List (Str × D)}, RF K W fv fd → RF K W (putF f v fv) (putD f d fd)
  | _, _, .nil => .cons ⟨rfl, h⟩ .nil
  | (g, x) :: r, (g', y) :: r', .cons a t => by
    obtain ⟨e, q⟩ := a
    cases e
    show RF K W (if g = f then _ else _) (if g = f then _ else _)
    by_cases hg : g = f
    · rw [if_pos hg, if_pos hg]; exact .cons ⟨rfl, h⟩ t
    · rw [if_neg hg, if_neg hg]; exact .cons ⟨rfl, q⟩ (RF.put h t)
theorem RF.look {f : Str} {d : D} : ∀ {fv : List (Str × V)} {fd : List (Str × D)}, RF K W fv fd → lkD f fd = some d → ∃ v, fv.lookup f = some v ∧ RV K W.F W.io v d
  | _, _, .nil, e => by cases e
  | (g, x) :: r, (g', y) :: r', .cons a t, e => by
    obtain ⟨ee, q⟩ := a
    cases ee
    unfold lkD at e
    by_cases hg : g = f
    · rw [if_pos hg] at e
      cases e
      refine ⟨x, ?_, q⟩
      have hb : (f == g) = true := beq_iff_eq.mpr hg.symm
      simp only [List.lookup, hb]
    · rw [if_neg hg] at e
      obtain ⟨v, e1, e2⟩ := RF.look t e
      refine ⟨v, ?_, e2⟩
      have hb : (f == g) = false := beq_eq_false_iff_ne.mpr fun z => hg z.symm
      simp only [List.lookup, hb, e1]
theorem RF.lookN {f : Str} : ∀ {fv : List (Str × V)} {fd : List (Str × D)}, RF K W fv fd → lkD f fd = none → fv.lookup f = none
  | _, _, .nil, e => rfl
  | (g, x) :: r, (g', y) :: r', .cons a t, e => by
    obtain ⟨ee, q⟩ := a
    cases ee
    unfold lkD at e
    by_cases hg : g = f
    · rw [if_pos hg] at e; cases e
    · rw [if_neg hg] at e
      have hb : (f == g) = false := beq_eq_false_iff_ne.mpr fun z => hg z.symm
      simp only [List.lookup, hb]
      exact RF.lookN t e
theorem RF.len : ∀ {fv : List (Str × V)} {fd : List (Str × D)}, RF K W fv fd → fv.length = fd.length
  | _, _, .nil => rfl
  | _, _, .cons _ t => congrArg (· + 1) (RF.len t)
end
/-- the instance of the class C that d tells -/
def objAt (C : Addr) (S : Ms) (d : D) : Option (Nat × List (Str × D)) := match d with
  | .ref k => match S.m[k]? with
    | some (.obj C' fs) => if C' = C then some (k, fs) else none
    | _ => none
  | _ => none
theorem objAt_ok {K : PySem.W.Frag} {W : Wd} {S : Ms} {s : L2.St} {C : Addr} {d : D} {v : V} {k : Nat} {fs : List (Str × D)} (R : Rel K W S s) (r : RV K W.F W.io v d) (h : objAt C S d = some (k, fs)) :
    d = .ref k ∧ S.m[k]? = some (.obj C fs) ∧ ∃ a dx fv, v = .ref a ∧ W.io[k]? = some a ∧ W.H a = some (.ins C dx fv) ∧ RF K W fv fs := by
  unfold objAt at h
  split at h
  · rename_i k0
    split at h
    · rename_i C' fs' e
      split at h
      · rename_i c
        subst c
        cases h
        obtain ⟨a, rfl, e1⟩ := r.ref_inv
        obtain ⟨dx, fv, h1, h2⟩ := R.cells _ _ a e e1
        exact ⟨rfl, e, a, dx, fv, rfl, e1, h1, h2⟩
      · cases h
    · cases h
  · cases h
def eFld (C : Addr) (a : Str) (f : EF) : EF := fun S => (f S).bind fun p => (objAt C p.2 p.1).bind fun q => (lkD a q.2).bind fun d => some (d, p.2)
def sFldM (C : Addr) (a : Str) (fo fe : EF) : SF := fun S => (fe S).bind fun p => (fo p.2).bind fun q => (objAt C q.2 q.1).bind fun r => if r.2.length < 1000 then some (.nx, ⟨q.2.r, q.2.m.set r.1 (.obj C (putD a p.1 r.2))⟩) else none
/-- a new list or dict goes into an attribute: as a cell -/
def sFldC (C : Addr) (a : Str) (fo : EF) (fc : CF) : SF := fun S => (fc S).bind fun p => (fo ⟨p.2.r, p.2.m ++ [p.1]⟩).bind fun q => (objAt C q.2 q.1).bind fun r => if r.2.length < 1000 then some (.nx, ⟨q.2.r, q.2.m.set r.1 (.obj C (putD a (.ref p.2.m.length) r.2))⟩) else none
def sFldAugM (C : Addr) (a : Str) (op : Int → Int → Int) (fo fe : EF) : SF := fun S => (fo S).bind fun q => (objAt C q.2 q.1).bind fun r => match lkD a r.2 with
  | some (.int i) => (fe q.2).bind fun p => match p.1 with
    | .int j => (objAt C p.2 q.1).bind fun r' => if r'.2.length < 1000 then some (.nx, ⟨p.2.r, p.2.m.set r'.1 (.obj C (putD a (.int (op i j)) r'.2))⟩) else none
    | _ => none
  | _ => none
def eMake (C : Addr) (n : Nat) (ff : FF) (fa : AF) : EF := fun S => (fa S).bind fun p => if p.1.length + 1 = n then (ff (.ref p.2.m.length :: p.1) (p.2.m ++ [.obj C []])).bind fun q => match q.1 with
    | .non => some (.ref p.2.m.length, ⟨p.2.r, q.2⟩)
    | _ => none
  else none
def eMeth (C : Addr) (m : Str) (n : Nat) (ff : FF) (fo : EF) (fa : AF) : EF := fun S => (fo S).bind fun o => (objAt C o.2 o.1).bind fun r => match lkD m r.2 with
  | none => (fa o.2).bind fun p => if p.1.length + 1 = n then (ff (o.1 :: p.1) p.2.m).bind fun q => some (q.1, ⟨p.2.r, q.2⟩) else none
  | some _ => none
structure Fmm (P : Program) (w : World) (K : PySem.W.Frag) (mg : Str → Option Value) (base : Heap) (k : Nat) (C : Addr) (m : Str) (ps : List Str) (ff : FF) : Prop where
  ex : ∃ (f : Addr) (fd : FuncData), FnOk P w K mg base CX0 k f fd ps (spM K ps.length ff) ∧ Meth K C m f ∧ Binds K fd ps []
structure Fii (P : Program) (w : World) (K : PySem.W.Frag) (mg : Str → Option Value) (base : Heap) (k : Nat) (C : Addr) (ps : List Str) (ff : FF) : Prop where
  ex : ∃ (f : Addr) (fd : FuncData), FnOk P w K mg base CX0 k f fd ps (spM K ps.length ff) ∧ Mk K C f ∧ Binds K fd ps []
section
variable {X : Cx} {C : Addr} {a m : Str} {e o value : Expr} {es : List Expr} {fe fo : EF} {fa : AF} {fc : CF} {pos pos' apos p : Pos} {ps : List Str} {n k : Nat} {ff : FF} {x : Str}
theorem me_fld (c : Cls X.K C) (na : NoAttr X.K C a) (he : ME X e fe) (hb : attributeBase e a X.env (eval e X.env) = eval e X.env := by rfl) : ME X (.Attribute e a pos) (eFld C a fe) := by
  obtain ⟨t, p, q⟩ := he
  refine ⟨_, pe_fld p hb, fun S d S' h W s Q R k => ?_⟩
  obtain ⟨⟨d1, S1⟩, e1, h⟩ := bind_some h
  obtain ⟨⟨k1, fs⟩, e2, h⟩ := bind_some h
  obtain ⟨d2, e3, h⟩ := bind_some h
  cases h
  refine q S _ _ e1 W s _ R fun v W1 R1 f1 r1 => ?_
  obtain ⟨_, _, b, dx, fv, rfl, _, h1, h2⟩ := objAt_ok R1 r1 e2
  obtain ⟨v2, e4, r2⟩ := h2.look e3
  exact ⟨b, C, dx, fv, v2, rfl, h1, c, na, e4, k v2 W1 R1 f1 r2⟩
theorem ms_fld (c : Cls X.K C) (na : NoAttr X.K C a) (ho : ME X o fo) (he : ME X value fe) (hs : swapsWith value (some (.Attribute o a pos')) pos.line X.env = pure false := by rfl) : MS X (.Assign [.Attribute o a pos'] value pos) (sFldM C a fo fe) := by
  obtain ⟨t, p, q⟩ := ho
  obtain ⟨t2, p2, q2⟩ := he
  refine ⟨_, ps_fld p p2 hs, fun S fl S' h W s D R k => ?_⟩
  obtain ⟨⟨d1, S1⟩, e1, h⟩ := bind_some h
  obtain ⟨⟨d2, S2⟩, e2, h⟩ := bind_some h
  obtain ⟨⟨k1, fs⟩, e3, h⟩ := bind_some h
  simp only at h
  split at h
  · rename_i hl
    cases h
    refine q2 S _ _ e1 W s _ R fun y W1 R1 f1 r1 => ?_
    refine q S1 _ _ e2 W1 s _ R1 fun v W2 R2 f2 r2 => ?_
    obtain ⟨_, _, b, dx, fv, rfl, hio, h1, h2⟩ := objAt_ok R2 r2 e3
    obtain ⟨R3, f3⟩ := R2.wrCell (o := .ins C dx (putF a y fv)) hio (c' := .obj C (putD a d1 fs)) ⟨dx, _, upd_same, h2.put (r1.up f2)⟩
    exact ⟨b, C, dx, fv, rfl, h1, c, na, by rw [h2.len]; exact hl, k (W2.wr b _) _ R3 ((f1.trans f2).trans f3)⟩
  · cases h
theorem ms_fldC (c : Cls X.K C) (na : NoAttr X.K C a) (ho : ME X o fo) (he : MF X value fc) (hs : swapsWith value (some (.Attribute o a pos')) pos.line X.env = pure false := by rfl) : MS X (.Assign [.Attribute o a pos'] value pos) (sFldC C a fo fc) := by
  obtain ⟨t, p, q⟩ := ho
  obtain ⟨t2, p2, q2⟩ := he
  refine ⟨_, ps_fld p p2 hs, fun S fl S' h W s D R k => ?_⟩
  obtain ⟨⟨d1, S1⟩, e1, h⟩ := bind_some h
  obtain ⟨⟨d2, S2⟩, e2, h⟩ := bind_some h
  obtain ⟨⟨k1, fs⟩, e3, h⟩ := bind_some h
  simp only at h
  split at h
  · rename_i hl
    cases h
    refine q2 S _ _ e1 W s _ R fun y W1 R1 f1 hp nw => ?_
    obtain ⟨R1', f1', r1⟩ := R1.addCell f1 hp nw
    refine q _ _ _ e2 (W1.cl y) s _ R1' fun v W2 R2 f2 r2 => ?_
    obtain ⟨_, _, b, dx, fv, rfl, hio, h1, h2⟩ := objAt_ok R2 r2 e3
    obtain ⟨R3, f3⟩ := R2.wrCell (o := .ins C dx (putF a (.ref y) fv)) hio (c' := .obj C (putD a (.ref S1.m.length) fs)) ⟨dx, _, upd_same, h2.put (r1.up f2)⟩
    exact ⟨b, C, dx, fv, rfl, h1, c, na, by rw [h2.len]; exact hl, k (W2.wr b _) _ R3 ((f1'.trans f2).trans f3)⟩
  · cases h
theorem ms_fldAug {op : Operator} {f : Int → Int → Int} (hop : InOp X op (fun x y H Q => ∃ i j, x = .int i ∧ y = .int j ∧ Q (.int (f i j)) H)) (c : Cls X.K C) (na : NoAttr X.K C a) (ho : ME X o fo) (he : ME X value fe) : MS X (.AugAssign (.Attribute o a pos') op value pos) (sFldAugM C a f fo fe) := by
  obtain ⟨t, p, q⟩ := ho
  obtain ⟨t2, p2, q2⟩ := he
  refine ⟨_, ps_fldaug p p2 hop, fun S fl S' h W s D R k => ?_⟩
  obtain ⟨⟨d1, S1⟩, e1, h⟩ := bind_some h
  obtain ⟨⟨k1, fs⟩, e2, h⟩ := bind_some h
  simp only at h
  split at h
  · rename_i i ei
    obtain ⟨⟨d2, S2⟩, e3, h⟩ := bind_some h
    simp only at h
    split at h
    · rename_i j
      obtain ⟨⟨k2, fs2⟩, e4, h⟩ := bind_some h
      simp only at h
      split at h
      · rename_i hl
        cases h
        refine q S _ _ e1 W s _ R fun v W1 R1 f1 r1 => ?_
        obtain ⟨_, _, b, dx, fv, rfl, hio, h1, h2⟩ := objAt_ok R1 r1 e2
        obtain ⟨v2, e5, r2⟩ := h2.look ei
        cases r2.int_inv
        refine ⟨b, C, dx, fv, _, rfl, h1, c, na, e5, ?_⟩
        refine q2 S1 _ _ e3 W1 s _ R1 fun y W2 R2 f2 r3 => ?_
        cases r3.int_inv
        obtain ⟨_, _, b', dx', fv', eb, hio', h1', h2'⟩ := objAt_ok R2 (r1.up f2) e4
        cases eb
        obtain ⟨R3, f3⟩ := R2.wrCell (o := .ins C dx' (putF a (.int (f i j)) fv')) hio' (c' := .obj C (putD a (.int (f i j)) fs2)) ⟨dx', _, upd_same, h2'.put (.int _)⟩
        exact ⟨i, j, rfl, rfl, dx', fv', h1', by rw [h2'.len]; exact hl, k (W2.wr b _) _ R3 ((f1.trans f2).trans f3)⟩
      · cases h
    · cases h
  · cases h
theorem ma_nil0 {K : PySem.W.Frag} : TAok K tNil aNil := fun S d S' h W s Q R k => by cases h; exact k _ W R .refl .nil
theorem te_meth {ps : List Str} {t : TE} {ta : TA} {E : XK} (q : TEok X.K t fo) (qa : TAok X.K ta fa) : TEok X.K (tMeth C m (spM X.K n ff) [] E t ta) (eMeth C m n ff fo fa) := by
  intro S d S' h W s Q R k
  obtain ⟨⟨d1, S1⟩, e1, h⟩ := bind_some h
  obtain ⟨⟨k1, fs⟩, e2, h⟩ := bind_some h
  simp only at h
  split at h
  · rename_i el
    obtain ⟨⟨ds, S2⟩, e3, h⟩ := bind_some h
    simp only at h
    split at h
    · rename_i hn
      obtain ⟨⟨d3, m3⟩, e4, h⟩ := bind_some h
      cases h
      refine q S _ _ e1 W s _ R fun v W1 R1 f1 r1 => ?_
      obtain ⟨_, _, b, dx, fv, rfl, hio, h1, h2⟩ := objAt_ok R1 r1 e2
      refine ⟨b, dx, fv, rfl, h1, h2.lookN el, ?_⟩
      refine qa S1 _ _ e3 W1 s _ R1 fun vs W2 R2 f2 r2 => ?_
      refine ⟨by simp only [List.append_nil, List.length_cons]; rw [r2.length]; exact hn, W2, _, S2.m, _, _, rfl, R2.bare, by rw [List.append_nil]; exact .cons (r1.up f2) r2, e4, fun v W3 R3 f3 r3 => ?_⟩
      obtain ⟨R4, f4⟩ := R2.back R3 f3
      exact k v W3 R4 ((f1.trans f2).trans f4) r3
    · cases h
  · cases h
theorem me_meth (c : Cls X.K C) (G : Fmm X.prog X.w X.K X.mg X.base k C m ps ff) (hr : Room k X.A) (ho : ME X o fo) (ha : MA X (e :: es) fa) (hn : ps.length = n := by rfl) {pl : Sem Bool}
    (hst : starEach (e :: es) X.env = (false, eval e X.env) :: starEach es X.env := by rfl) (hpl : (backTo pos (starEach es X.env)).any (·.1) = false := by rfl)
    (ht : eval (.Call (.Attribute o m apos) (e :: es) [] pos) X.env = (do
      let ov ← eval o X.env
      standAt apos.atName
      let (f, first) ← holding [ov] (getMethod ov m pl)
      callWith pos f first (backTo pos (starEach (e :: es) X.env)) (backToKw pos (keywordEach [] X.env))) := by rfl) :
    ME X (.Call (.Attribute o m apos) (e :: es) [] pos) (eMeth C m n ff fo fa) := by
  obtain ⟨t, p, q⟩ := ho
  obtain ⟨t2, p2, q2⟩ := ha
  obtain ⟨f, fd, F, M, B⟩ := G.ex
  rw [hn] at F
  exact ⟨_, pe_meth (pl := pl) p c M F hr B .nil pass0 p2 hst hpl ht, te_meth (ps := ps) q q2⟩
theorem me_meth0 (c : Cls X.K C) (G : Fmm X.prog X.w X.K X.mg X.base k C m ps ff) (hr : Room k X.A) (ho : ME X o fo) (hn : ps.length = n := by rfl) {pl : Sem Bool}
    (ht : eval (.Call (.Attribute o m apos) [] [] pos) X.env = (do
      let ov ← eval o X.env
      standAt apos.atName
      let (f, first) ← holding [ov] (getMethod ov m pl)
      callWith pos f first (backTo pos (starEach [] X.env)) (backToKw pos (keywordEach [] X.env))) := by rfl) :
    ME X (.Call (.Attribute o m apos) [] [] pos) (eMeth C m n ff fo aNil) := by
  obtain ⟨t, p, q⟩ := ho
  obtain ⟨f, fd, F, M, B⟩ := G.ex
  rw [hn] at F
  exact ⟨_, pe_meth0 (pl := pl) p c M F hr B .nil pass0 ht, te_meth (ps := ps) q ma_nil0⟩
theorem te_make {ta : TA} {E : XK} (qa : TAok X.K ta fa) : TEok X.K (tMake C (spM X.K n ff) [] E ta) (eMake C n ff fa) := by
  intro S d S' h W s Q R k
  obtain ⟨⟨ds, S1⟩, e1, h⟩ := bind_some h
  simp only at h
  split at h
  · rename_i hn
    obtain ⟨⟨d2, m2⟩, e2, h⟩ := bind_some h
    simp only at h
    split at h
    · cases h
      refine qa S _ _ e1 W s _ R fun vs W1 R1 f1 r1 => ?_
      intro x dx nx ndx ne
      obtain ⟨R2, f2⟩ := R1.wrNew (o := .own x) ndx
      have nx2 : (W1.wr dx (.own x)).H x = none := by
        show upd W1.H dx _ x = none
        rw [upd_ne ne.symm]; exact nx
      obtain ⟨R3, f3⟩ := R2.wrNew (o := .ins C dx []) nx2
      have nw : New X.K ((W1.wr dx (.own x)).wr x (.ins C dx [])) S1 s x (.obj C []) :=
        ⟨R1.freshF nx, R1.freshIo nx, R1.freshOwn nx, dx, [], upd_same, .nil⟩
      obtain ⟨R4, f4, r4⟩ := R3.addCell (f2.trans f3) nx nw
      refine ⟨by simp only [List.append_nil, List.length_cons]; rw [r1.length]; exact hn, _, _, _, _, _, rfl, R4.bare, by rw [List.append_nil]; exact .cons r4 (r1.up f4), e2, fun v W5 R5 f5 r5 => ?_⟩
      obtain ⟨R6, f6⟩ := R4.back R5 f5
      exact ⟨r5.non_inv, k _ W5 R6 ((f1.trans f4).trans f6) (r4.up f6)⟩
    · cases h
  · cases h
theorem me_make (G : Fii X.prog X.w X.K X.mg X.base k C ps ff) (hr : Room (k + 1) X.A) (hm : X.mg x = some (.ref C)) (ha : MA X (e :: es) fa) (hn : ps.length = n := by rfl)
    (hg : Gl X x := by rfl) (hdb : (x == ("__debug__" : Str)) = false := by decide) (he : starEach (e :: es) X.env = (false, eval e X.env) :: starEach es X.env := by rfl) (hpl : (backTo pos (starEach es X.env)).any (·.1) = false := by rfl) :
    ME X (.Call (.Name x p) (e :: es) [] pos) (eMake C n ff fa) := by
  obtain ⟨t2, p2, q2⟩ := ha
  obtain ⟨f, fd, F, M, B⟩ := G.ex
  rw [hn] at F
  exact ⟨_, pe_make M F hr hg hm B .nil pass0 p2 hdb he hpl, te_make q2⟩
theorem me_make0 (G : Fii X.prog X.w X.K X.mg X.base k C ps ff) (hr : Room (k + 1) X.A) (hm : X.mg x = some (.ref C)) (hn : ps.length = n := by rfl)
    (hg : Gl X x := by rfl) (hdb : (x == ("__debug__" : Str)) = false := by decide) : ME X (.Call (.Name x p) [] [] pos) (eMake C n ff aNil) := by
  obtain ⟨f, fd, F, M, B⟩ := G.ex
  rw [hn] at F
  exact ⟨_, pe_make0 M F hr hg hm B .nil pass0 hdb, te_make ma_nil0⟩
end
section
variable {P : Program} {w : World} {K : PySem.W.Frag} {mg : Str → Option Value} {base : Heap}
theorem fmm {x qual : Str} {st : Stmt} {f C : Addr} {fd : FuncData} {N ps : List Str} {k : Nat} {b : SF} (F : Fun K x qual st f fd) (hm : Meth K C x f) (S : FnScope N ps (defScope st))
    (hbi : ∀ (kV doc pm : Value) (an : Option Addr) (cdv ct : Value) (us : List Value), us.length = ps.length → bindArgs (PySem.W.fnOf x qual (defArgs st) (defBody st) (defScope st) .none kV doc pm an cdv ct) ⟨us, []⟩ = pure (ps.zip us))
    (hb : ∀ (cdv : Value) (A : Around) (outer : List Env) (s : Shared) (H : Hp) (E : XK), Room k (A.deeper (PyProof.Rows.envOfC qual (defScope st) s.heap.objs.size f cdv)) →
      MSs (cxOf CX0 P w K mg base N qual (defScope st) f cdv A outer s H E).nox (defBody st) b) : Fmm P w K mg base (k + 1) C x ps (fnM N.length b) :=
  ⟨f, fd, fn_ok F S hb, hm, F.binds hbi⟩
theorem fii {x qual : Str} {st : Stmt} {f C : Addr} {fd : FuncData} {N ps : List Str} {k : Nat} {b : SF} (F : Fun K x qual st f fd) (hm : Mk K C f) (S : FnScope N ps (defScope st))
    (hbi : ∀ (kV doc pm : Value) (an : Option Addr) (cdv ct : Value) (us : List Value), us.length = ps.length → bindArgs (PySem.W.fnOf x qual (defArgs st) (defBody st) (defScope st) .none kV doc pm an cdv ct) ⟨us, []⟩ = pure (ps.zip us))
    (hb : ∀ (cdv : Value) (A : Around) (outer : List Env) (s : Shared) (H : Hp) (E : XK), Room k (A.deeper (PyProof.Rows.envOfC qual (defScope st) s.heap.objs.size f cdv)) →
      MSs (cxOf CX0 P w K mg base N qual (defScope st) f cdv A outer s H E).nox (defBody st) b) : Fii P w K mg base (k + 1) C ps (fnM N.length b) :=
  ⟨f, fd, fn_ok F S hb, hm, F.binds hbi⟩
end
/-- what is asked of the law, with no address in it -/
def spLw (K : PySem.W.Frag) : Sp := fun vs H Q _ => ∃ (a : Addr) (ns : List Int), vs = [.ref a] ∧ SqL K H a (ns.map V.int) ∧ ns.length ≤ 63 ∧ (∀ z ∈ ns, Builtin.Int.intBits z ≤ 1048576) ∧ ∀ v H', v = .bl true → Q v H'
theorem spLw_imp {K : PySem.W.Frag} {ff : FF} (h : ∀ ns : List Int, ns.length ≤ 63 → (∀ z ∈ ns, Builtin.Int.intBits z ≤ 1048576) → ∃ m, ff [.sc (ns.map D.int)] [] = some (.bl true, m)) : ∀ vs H Q E, spLw K vs H Q E → spM K 1 ff vs H Q E := fun vs H Q E ⟨a, ns, e, hS, hl, hb, k⟩ => by
  obtain ⟨m', em⟩ := h ns hl hb
  subst e
  exact ⟨rfl, ⟨H, H, []⟩, [.sc (ns.map D.int)], [], .bl true, m', rfl, ⟨fun _ _ h => h, List.nodup_nil, fun a h => by simp at h, rfl, fun k c a h => by simp at h, rfl, fun i d h => by simp at h, fun i c h => by simp at h, fun i j c c' a h => by simp at h⟩,
    .cons (.sc hS (RVs.ints ns)) .nil, em, fun v W' _ _ r => k v _ r.bl_inv⟩
section
variable {C : Addr} {a m : Str} {S : Ms} {f fo fe : EF} {fa : AF} {fc : CF} {n : Nat} {ff : FF} {op : Int → Int → Int}
@[simp] theorem eFld_ap : eFld C a f S = (f S).bind fun p => (objAt C p.2 p.1).bind fun q => (lkD a q.2).bind fun d => some (d, p.2) := rfl
@[simp] theorem sFldM_ap : sFldM C a fo fe S = (fe S).bind fun p => (fo p.2).bind fun q => (objAt C q.2 q.1).bind fun r => if r.2.length < 1000 then some (.nx, ⟨q.2.r, q.2.m.set r.1 (.obj C (putD a p.1 r.2))⟩) else none := rfl
@[simp] theorem sFldC_ap : sFldC C a fo fc S = (fc S).bind fun p => (fo ⟨p.2.r, p.2.m ++ [p.1]⟩).bind fun q => (objAt C q.2 q.1).bind fun r => if r.2.length < 1000 then some (.nx, ⟨q.2.r, q.2.m.set r.1 (.obj C (putD a (.ref p.2.m.length) r.2))⟩) else none := rfl
@[simp] theorem sFldAugM_ap : sFldAugM C a op fo fe S = (fo S).bind fun q => (objAt C q.2 q.1).bind fun r => match lkD a r.2 with
  | some (.int i) => (fe q.2).bind fun p => match p.1 with
    | .int j => (objAt C p.2 q.1).bind fun r' => if r'.2.length < 1000 then some (.nx, ⟨p.2.r, p.2.m.set r'.1 (.obj C (putD a (.int (op i j)) r'.2))⟩) else none
    | _ => none
  | _ => none := rfl
@[simp] theorem eMake_ap : eMake C n ff fa S = (fa S).bind fun p => if p.1.length + 1 = n then (ff (.ref p.2.m.length :: p.1) (p.2.m ++ [.obj C []])).bind fun q => match q.1 with
    | .non => some (.ref p.2.m.length, ⟨p.2.r, q.2⟩)
    | _ => none
  else none := rfl
@[simp] theorem eMeth_ap : eMeth C m n ff fo fa S = (fo S).bind fun o => (objAt C o.2 o.1).bind fun r => match lkD m r.2 with
  | none => (fa o.2).bind fun p => if p.1.length + 1 = n then (ff (o.1 :: p.1) p.2.m).bind fun q => some (q.1, ⟨p.2.r, q.2⟩) else none
  | some _ => none := rfl
@[simp] theorem objAt_ref {k : Nat} : objAt C S (.ref k) = match S.m[k]? with
    | some (.obj C' fs) => if C' = C then some (k, fs) else none
    | _ => none := rfl
@[simp] theorem lkD_nil : lkD a [] = none := rfl
@[simp] theorem lkD_cons {g : Str} {x : D} {r : List (Str × D)} : lkD a ((g, x) :: r) = if g = a then some x else lkD a r := rfl
@[simp] theorem putD_nil {v : D} : putD a v [] = [(a, v)] := rfl
@[simp] theorem putD_cons {g : Str} {x v : D} {r : List (Str × D)} : putD a v ((g, x) :: r) = if g = a then (g, v) :: r else (g, x) :: putD a v r := rfl
end
end M

/-! dicts with tuple keys (as cells), lists in attributes, lists of lists that change, [::-1] -/
namespace M
open PySem PySem.Spec L2
/-! keys -/
def keyD : D → Option Key
  | .int i => some (.inl i)
  | .str s => some (.inr s)
  | _ => none
def keysD : List D → Option (List Key)
  | [] => some []
  | d :: r => (keyD d).bind fun k => (keysD r).bind fun q => some (k :: q)
theorem keysD_ok {K : PySem.W.Frag} {F : Hp} {io : List Addr} : ∀ {vs : List V} {ds : List D} {ks : List Key}, RVs K F io vs ds → keysD ds = some ks → vs = ks.map kV
  | _, _, _, .nil, h => by cases h; rfl
  | _, _, _, .cons r t, h => by
    obtain ⟨k, e1, h⟩ := bind_some h
    obtain ⟨q, e2, h⟩ := bind_some h
    cases h
    have ih := keysD_ok t e2
    subst ih
    unfold keyD at e1
    split at e1
    · cases e1; cases r.int_inv; rfl
    · cases e1; cases r.str_inv; rfl
    · cases e1
abbrev KF := Ms → Option (List Key × Ms)
def TKok (K : PySem.W.Frag) (t : TE) (f : KF) : Prop := ∀ S ks S', f S = some (ks, S') → ∀ W s (Q : VK), Rel K W S s → (∀ b W', Rel K W' S' s → Fr W S.r s W' S'.r s → W'.F b = some (.tup (ks.map kV)) → Q (.ref b) W'.H) → t s W.H Q
def MKy (X : Cx) (e : Expr) (f : KF) : Prop := ∃ t, PE X e t ∧ TKok X.K t f
def kTup (a : AF) : KF := fun S => (a S).bind fun p => (keysD p.1).bind fun ks => if p.1.length ≤ LIM then some (ks, p.2) else none
/-- what is kept under a key -/
def vT (kds : List (List Key × D)) (k : List Key) : Option D := match kds with
  | [] => none
  | (j, d) :: r => if j = k then some d else vT r k
def pT (kds : List (List Key × D)) (k : List Key) (d : D) : List (List Key × D) := if (vT kds k).isSome then kds.map fun kd => if kd.1 = k then (kd.1, d) else kd else kds ++ [(k, d)]
section
variable {K : PySem.W.Frag} {W : Wd}
theorem RT.look {k : List Key} : ∀ {kvs : List (List Key × V)} {kds : List (List Key × D)}, RT K W kvs kds → (vT kds k = none → valV kvs k = none) ∧ ∀ d, vT kds k = some d → ∃ v, valV kvs k = some v ∧ RV K W.F W.io v d
  | _, _, .nil => ⟨fun _ => rfl, fun d h => by cases h⟩
  | (j, x) :: r, (j', y) :: r', .cons a t => by
    obtain ⟨e, q⟩ := a
    cases e
    obtain ⟨i1, i2⟩ := RT.look (k := k) t
    unfold vT
    by_cases h : j = k
    · rw [if_pos h, valV_pos (p := (j, x)) h]
      exact ⟨(fun z => by cases z), (fun d z => by cases z; exact ⟨x, rfl, q⟩)⟩
    · rw [if_neg h, valV_neg (p := (j, x)) h]
      exact ⟨i1, i2⟩
theorem RT.len : ∀ {kvs : List (List Key × V)} {kds : List (List Key × D)}, RT K W kvs kds → kvs.length = kds.length
  | _, _, .nil => rfl
  | _, _, .cons _ t => congrArg (· + 1) (RT.len t)
theorem RT.repl {k : List Key} {v : V} {d : D} (h : RV K W.F W.io v d) : ∀ {kvs : List (List Key × V)} {kds : List (List Key × D)}, RT K W kvs kds → RT K W (kvs.map fun kv => if kv.1 = k then (kv.1, v) else kv) (kds.map fun kd => if kd.1 = k then (kd.1, d) else kd)
  | _, _, .nil => .nil
  | (j, x) :: r, (j', y) :: r', .cons a t => by
    obtain ⟨e, q⟩ := a
    cases e
    refine .cons ?_ (RT.repl h t)
    by_cases c : j = k
    · dsimp only; rw [if_pos c, if_pos c]; exact ⟨rfl, h⟩
    · dsimp only; rw [if_neg c, if_neg c]; exact ⟨rfl, q⟩
theorem RT.snoc {k : List Key} {v : V} {d : D} (h : RV K W.F W.io v d) : ∀ {kvs : List (List Key × V)} {kds : List (List Key × D)}, RT K W kvs kds → RT K W (kvs ++ [(k, v)]) (kds ++ [(k, d)])
  | _, _, .nil => .cons ⟨rfl, h⟩ .nil
  | _, _, .cons a t => .cons a (RT.snoc h t)
theorem RT.put {k : List Key} {v : V} {d : D} (h : RV K W.F W.io v d) {kvs : List (List Key × V)} {kds : List (List Key × D)} (r : RT K W kvs kds) : RT K W (putK kvs k v) (pT kds k d) := by
  unfold putK pT
  have hs : (kvs.any fun kv => decide (kv.1 = k)) = (vT kds k).isSome := by
    rw [valV_any]
    obtain ⟨i1, i2⟩ := r.look (k := k)
    cases e : vT kds k with
    | none => rw [i1 e]; rfl
    | some d' => obtain ⟨v', e', _⟩ := i2 d' e; rw [e']; rfl
  rw [hs]
  split
  · exact r.repl h
  · exact r.snoc h
end
/-- the dict that d tells -/
def dTAt (S : Ms) (d : D) : Option (Nat × List (List Key × D)) := match d with
  | .ref k => match S.m[k]? with
    | some (.dT kds) => some (k, kds)
    | _ => none
  | _ => none
theorem dTAt_ok {K : PySem.W.Frag} {W : Wd} {S : Ms} {s : L2.St} {d : D} {v : V} {k : Nat} {kds : List (List Key × D)} (R : Rel K W S s) (r : RV K W.F W.io v d) (h : dTAt S d = some (k, kds)) :
    d = .ref k ∧ ∃ a kvs, v = .ref a ∧ W.io[k]? = some a ∧ W.H a = some (.dT kvs) ∧ RT K W kvs kds := by
  unfold dTAt at h
  split at h
  · rename_i k0
    split at h
    · rename_i kds' e
      cases h
      obtain ⟨a, rfl, e1⟩ := r.ref_inv
      obtain ⟨kvs, h1, h2⟩ := R.cells _ _ a e e1
      exact ⟨rfl, a, kvs, rfl, e1, h1, h2⟩
    · cases h
  · cases h
def eDGetT (fd : EF) (fk : KF) : EF := fun S => (fd S).bind fun p => (fk p.2).bind fun q => (dTAt q.2 p.1).bind fun r => (vT r.2 q.1).bind fun d => some (d, q.2)
def bDInT (neg : Bool) (fk : KF) (fd : EF) : BF := fun S => (fk S).bind fun q => (fd q.2).bind fun p => (dTAt p.2 p.1).bind fun r => some (xor neg (vT r.2 q.1).isSome, p.2)
def sDPutT (fd : EF) (fk : KF) (fv : EF) : SF := fun S => (fv S).bind fun v => (fd v.2).bind fun p => (fk p.2).bind fun q => (dTAt q.2 p.1).bind fun r => if r.2.length < LIM then some (.nx, ⟨q.2.r, q.2.m.set r.1 (.dT (pT r.2 q.1 v.1))⟩) else none
def cDT : CF := fun S => some (.dT [], S)
/-- the list that d tells, as a cell -/
def lAt (S : Ms) (d : D) : Option (Nat × List D) := match d with
  | .ref k => match S.m[k]? with
    | some (.lst ds) => some (k, ds)
    | _ => none
  | _ => none
theorem lAt_ok {K : PySem.W.Frag} {W : Wd} {S : Ms} {s : L2.St} {d : D} {v : V} {k : Nat} {ds : List D} (R : Rel K W S s) (r : RV K W.F W.io v d) (h : lAt S d = some (k, ds)) :
    d = .ref k ∧ ∃ a vs, v = .ref a ∧ W.io[k]? = some a ∧ W.H a = some (.lst vs) ∧ RVs K W.F W.io vs ds := by
  unfold lAt at h
  split at h
  · rename_i k0
    split at h
    · rename_i kds' e
      cases h
      obtain ⟨a, rfl, e1⟩ := r.ref_inv
      obtain ⟨kvs, h1, h2⟩ := R.cells _ _ a e e1
      exact ⟨rfl, a, kvs, rfl, e1, h1, h2⟩
    · cases h
  · cases h
def eAppE (fo fe : EF) : EF := fun S => (fo S).bind fun p => (lAt p.2 p.1).bind fun _ => (fe p.2).bind fun q => (lAt q.2 p.1).bind fun r => if r.2.length < LIM then some (.non, ⟨q.2.r, q.2.m.set r.1 (.lst (r.2 ++ [q.1]))⟩) else none
def gSubE (fo fi : EF) : GF := fun d S => (fo S).bind fun p => (fi p.2).bind fun q => (lAt q.2 p.1).bind fun r => match q.1 with
  | .int i => (ixN r.2.length i).bind fun j => some ⟨q.2.r, q.2.m.set r.1 (.lst (r.2.set j d))⟩
  | _ => none
/-- a new object, kept as a cell -/
def eCel (c : CF) : EF := fun S => (c S).bind fun p => some (.ref p.2.m.length, ⟨p.2.r, p.2.m ++ [p.1]⟩)
def cRev (f : EF) : CF := fun S => (f S).bind fun p => (seqD p.1).bind fun ds => match p.1 with
  | .tup _ => none
  | _ => some (.lst ds.reverse, p.2)
section
variable {X : Cx} {e o i value : Expr} {es : List Expr} {fe fo fi fd : EF} {fk : KF} {fa : AF} {fc : CF} {pos pos' apos p1 p2 p3 : Pos} {k : Nat}
theorem mk_tup (h : MA X es fa) : MKy X (.Tuple es k pos) (kTup fa) := by
  obtain ⟨t, p, q⟩ := h
  refine ⟨_, pe_tup p, fun S d S' h W s Q R k => ?_⟩
  obtain ⟨⟨ds, S1⟩, e1, h⟩ := bind_some h
  obtain ⟨ks, e2, h⟩ := bind_some h
  simp only at h
  split at h
  · rename_i c
    cases h
    refine q S _ _ e1 W s _ R fun vs W1 R1 f1 r1 => ?_
    refine ⟨by rw [r1.length]; exact Nat.le_trans c lim_line, fun p hp => ?_⟩
    have hk := keysD_ok r1 e2
    obtain ⟨R2, f2⟩ := R1.al (o := .tup vs) hp
    exact k p _ R2 (f1.trans f2) (by rw [← hk]; exact upd_same)
  · cases h
theorem me_dgetT (hu : X.A.units + 1 < cLine) (ho : ME X o fd) (hi : MKy X i fk) (hs : NoSl i := by intro _ _; rfl) : ME X (.Subscript o i pos) (eDGetT fd fk) := by
  obtain ⟨t, p, q⟩ := ho
  obtain ⟨t2, p2, q2⟩ := hi
  refine ⟨_, pe_dget hu p p2 hs, fun S d S' h W s Q R k => ?_⟩
  obtain ⟨⟨d1, S1⟩, e1, h⟩ := bind_some h
  obtain ⟨⟨ks, S2⟩, e2, h⟩ := bind_some h
  obtain ⟨⟨k1, kds⟩, e3, h⟩ := bind_some h
  obtain ⟨d2, e4, h⟩ := bind_some h
  cases h
  refine q S _ _ e1 W s _ R fun v W1 R1 f1 r1 => ?_
  refine q2 S1 _ _ e2 W1 s _ R1 fun b W2 R2 f2 hb => ?_
  obtain ⟨_, a, kvs, rfl, _, h1, h2⟩ := dTAt_ok R2 (r1.up f2) e3
  obtain ⟨v2, e5, r2⟩ := h2.look.2 _ e4
  exact ⟨a, v2, rfl, .inr ⟨kvs, ks, b, .inl h1, rfl, R2.sub _ _ hb, e5.symm⟩, k v2 W2 R2 (f1.trans f2) r2⟩
theorem RT.isSome {K : PySem.W.Frag} {W : Wd} {k : List Key} {kvs : List (List Key × V)} {kds : List (List Key × D)} (r : RT K W kvs kds) : (valV kvs k).isSome = (vT kds k).isSome := by
  obtain ⟨i1, i2⟩ := r.look (k := k)
  cases e : vT kds k with
  | none => rw [i1 e]; rfl
  | some d' => obtain ⟨v', e', _⟩ := i2 d' e; rw [e']; rfl
theorem mt_dinT (hu : X.A.units + 1 < cLine) (hi : MKy X i fk) (ho : ME X o fd) (h1 : behindInMarks .In o = false := by rfl) : MT X (.Compare i [.In] [o] pos) (bDInT false fk fd) := by
  obtain ⟨t, p, q⟩ := ho
  obtain ⟨t2, p2, q2⟩ := hi
  refine ⟨_, pt_cmp (pc_din hu p2 p) h1, fun S d S' h W s Q R k => ?_⟩
  obtain ⟨⟨ks, S1⟩, e1, h⟩ := bind_some h
  obtain ⟨⟨d1, S2⟩, e2, h⟩ := bind_some h
  obtain ⟨⟨k1, kds⟩, e3, h⟩ := bind_some h
  cases h
  refine q2 S _ _ e1 W s _ R fun b W1 R1 f1 hb => ?_
  refine q S1 _ _ e2 W1 s _ R1 fun v W2 R2 f2 r2 => ?_
  obtain ⟨_, a, kvs, rfl, _, g1, g2⟩ := dTAt_ok R2 r2 e3
  refine ⟨a, valV kvs ks, rfl, .inr ⟨kvs, ks, b, .inl g1, rfl, R2.sub _ _ (f2.fx _ _ hb), rfl⟩, _, rfl, ?_⟩
  rw [g2.isSome]
  have := k W2 R2 (f1.trans f2)
  simpa using this
theorem mt_dnotinT (hu : X.A.units + 1 < cLine) (hi : MKy X i fk) (ho : ME X o fd) (h1 : behindInMarks .NotIn o = false := by rfl) : MT X (.Compare i [.NotIn] [o] pos) (bDInT true fk fd) := by
  obtain ⟨t, p, q⟩ := ho
  obtain ⟨t2, p2, q2⟩ := hi
  refine ⟨_, pt_cmp (pc_dnotin hu p2 p) h1, fun S d S' h W s Q R k => ?_⟩
  obtain ⟨⟨ks, S1⟩, e1, h⟩ := bind_some h
  obtain ⟨⟨d1, S2⟩, e2, h⟩ := bind_some h
  obtain ⟨⟨k1, kds⟩, e3, h⟩ := bind_some h
  cases h
  refine q2 S _ _ e1 W s _ R fun b W1 R1 f1 hb => ?_
  refine q S1 _ _ e2 W1 s _ R1 fun v W2 R2 f2 r2 => ?_
  obtain ⟨_, a, kvs, rfl, _, g1, g2⟩ := dTAt_ok R2 r2 e3
  refine ⟨a, valV kvs ks, rfl, .inr ⟨kvs, ks, b, .inl g1, rfl, R2.sub _ _ (f2.fx _ _ hb), rfl⟩, _, rfl, ?_⟩
  rw [g2.isSome]
  have := k W2 R2 (f1.trans f2)
  simpa using this
theorem ms_dputT (hu : X.A.units + 1 < cLine) (ho : ME X o fd) (hi : MKy X i fk) (hv : ME X value fe) (hs : swapsWith value (some (.Subscript o i pos')) pos.line X.env = pure false := by rfl) :
    MS X (.Assign [.Subscript o i pos'] value pos) (sDPutT fd fk fe) := by
  obtain ⟨t, p, q⟩ := ho
  obtain ⟨t2, p2, q2⟩ := hi
  obtain ⟨t3, p3, q3⟩ := hv
  refine ⟨_, ps_dput hu p p2 p3 hs, fun S fl S' h W s D R k => ?_⟩
  obtain ⟨⟨dv, S1⟩, e1, h⟩ := bind_some h
  obtain ⟨⟨d1, S2⟩, e2, h⟩ := bind_some h
  obtain ⟨⟨ks, S3⟩, e3, h⟩ := bind_some h
  obtain ⟨⟨k1, kds⟩, e4, h⟩ := bind_some h
  simp only at h
  split at h
  · rename_i hl
    cases h
    refine q3 S _ _ e1 W s _ R fun v W1 R1 f1 r1 => ?_
    refine q S1 _ _ e2 W1 s _ R1 fun y W2 R2 f2 r2 => ?_
    refine q2 S2 _ _ e3 W2 s _ R2 fun b W3 R3 f3 hb => ?_
    obtain ⟨_, a, kvs, rfl, hio, g1, g2⟩ := dTAt_ok R3 (r2.up f3) e4
    obtain ⟨R4, f4⟩ := R3.wrCell (o := .dT (putK kvs ks v)) hio (c' := .dT (pT kds ks dv)) ⟨_, upd_same, g2.put ((r1.up f2).up f3)⟩
    exact ⟨a, _, rfl, .inr ⟨kvs, ks, b, g1, rfl, R3.sub _ _ hb, by rw [g2.len]; exact Nat.lt_of_lt_of_le hl lim_line, rfl⟩, k (W3.wr a _) _ R4 (((f1.trans f2).trans f3).trans f4)⟩
  · cases h
theorem mf_dT : MF X (.Dict [] [] pos) cDT := by
  refine ⟨_, pe_dnewT, fun S c S' h W s Q R k => ?_⟩
  cases h
  intro p hp
  obtain ⟨R1, f1⟩ := R.wrNew (o := .dT []) hp
  exact k p _ R1 f1 hp ⟨R.freshF hp, R.freshIo hp, R.freshOwn hp, [], upd_same, .nil⟩
theorem me_appE (ho : ME X o fo) (he : ME X e fe)
    (hbase : attributeBase o "append" X.env (eval o X.env) = eval o X.env := by rfl)
    (hfew : ((backTo pos (starEach [e] X.env)).all (fun x => !x.1) && (backToKw pos (keywordEach [] X.env)).all (fun x => x.1.isSome)
      && decide ([e].length + ([] : List Keyword).length + (if ([] : List Keyword).isEmpty then 0 else 1) < 30)) = true := by rfl)
    (hline : (apos.endLine == pos.line) = true := by rfl) (hs : starEach [e] X.env = (false, eval e X.env) :: starEach [] X.env := by rfl) (hplain : (backTo pos (starEach [] X.env)).any (·.1) = false := by rfl) :
    ME X (.Call (.Attribute o "append" apos) [e] [] pos) (eAppE fo fe) := by
  obtain ⟨t, p, q⟩ := ho
  obtain ⟨t2, p2, q2⟩ := he
  refine ⟨_, pe_bm PySem.F.plainAttrs_list PySem.F.slot_list_append PySem.F.type_list_append mt_append p (pa_cons p2 pa_nil hs) hbase hfew hline hs hplain, fun S d S' h W s Q R k => ?_⟩
  obtain ⟨⟨d1, S1⟩, e1, h⟩ := bind_some h
  obtain ⟨⟨k0, ds0⟩, e0, h⟩ := bind_some h
  obtain ⟨⟨d2, S2⟩, e2, h⟩ := bind_some h
  obtain ⟨⟨k1, ds⟩, e3, h⟩ := bind_some h
  simp only at h
  split at h
  · rename_i hl
    cases h
    refine q S _ _ e1 W s _ R fun v W1 R1 f1 r1 => ?_
    obtain ⟨_, a, vs0, rfl, _, g0, _⟩ := lAt_ok R1 r1 e0
    refine ⟨.inl ⟨rfl, vs0, .of g0⟩, ?_⟩
    refine q2 S1 _ _ e2 W1 s _ R1 fun y W2 R2 f2 r2 => ?_
    obtain ⟨_, a', vs, ea, hio, g1, g2⟩ := lAt_ok R2 (r1.up f2) e3
    cases ea
    obtain ⟨R3, f3⟩ := R2.wrCell (o := .lst (vs ++ [y])) hio (c' := .lst (ds ++ [d2])) ⟨_, upd_same, g2.append (.cons r2 .nil)⟩
    exact ⟨a, vs, y, rfl, rfl, g1, by rw [g2.length]; exact Nat.lt_of_lt_of_le hl lim_line, k _ (W2.wr a _) R3 ((f1.trans f2).trans f3) .non⟩
  · cases h
theorem mg_subE {ie : Expr} (ho : ME X o fo) (hi : ME X ie fi)
    (ha : ∀ v, assign (.Subscript o ie pos) X.env v = (do
      let ov ← holding [v] (eval o X.env)
      let iv ← holding [v, ov] (eval ie X.env)
      standAt pos
      holding [v, ov, iv] (setItem ov iv v)
      release [v, ov, iv] []) := by intro _; rfl) : MG X (.Subscript o ie pos) (gSubE fo fi) := by
  obtain ⟨t, p, q⟩ := ho
  obtain ⟨t2, p2, q2⟩ := hi
  refine ⟨_, pg_sub p p2 set_list ha, fun d S S' h W s v Q R r k => ?_⟩
  obtain ⟨⟨d1, S1⟩, e1, h⟩ := bind_some h
  obtain ⟨⟨d2, S2⟩, e2, h⟩ := bind_some h
  obtain ⟨⟨k1, ds⟩, e3, h⟩ := bind_some h
  simp only at h
  split at h
  · rename_i i0 _
    obtain ⟨j, e4, h⟩ := bind_some h
    cases h
    refine q S _ _ e1 W s _ R fun y W1 R1 f1 r1 => ?_
    refine q2 S1 _ _ e2 W1 s _ R1 fun z W2 R2 f2 r2 => ?_
    cases r2.int_inv
    obtain ⟨_, a, vs, rfl, hio, g1, g2⟩ := lAt_ok R2 (r1.up f2) e3
    obtain ⟨R3, f3⟩ := R2.wrCell (o := .lst (vs.set j v)) hio (c' := .lst (ds.set j d)) ⟨_, upd_same, g2.set j ((r.up f1).up f2)⟩
    exact ⟨a, vs, i0, j, rfl, rfl, g1, by rw [g2.length]; exact e4, k (W2.wr a _) _ R3 ((f1.trans f2).trans f3)⟩
  · cases h
theorem me_cel (h : MF X e fc) : ME X e (eCel fc) := by
  obtain ⟨t, p, q⟩ := h
  refine ⟨t, p, fun S d S' h W s Q R k => ?_⟩
  obtain ⟨⟨c, S1⟩, e1, h⟩ := bind_some h
  cases h
  refine q S _ _ e1 W s _ R fun a W1 R1 f1 hp n => ?_
  obtain ⟨R2, f2, r2⟩ := R1.addCell f1 hp n
  exact k _ (W1.cl a) R2 f2 r2
theorem mf_rev (he : ME X e fe) : MF X (.Subscript e (.Slice none none (some (.UnaryOp .USub (.Constant (.int 1) k p1) p2)) p3) pos) (cRev fe) := by
  obtain ⟨t, p, q⟩ := he
  refine ⟨_, pe_revL p, fun S c S' h W s Q R k => ?_⟩
  obtain ⟨⟨d1, S1⟩, e1, h⟩ := bind_some h
  obtain ⟨ds, e2, h⟩ := bind_some h
  refine q S _ _ e1 W s _ R fun v W1 R1 f1 r1 => ?_
  simp only at e2 h
  have fin : ∀ a vs, SqL X.K W1.H a vs → RVs X.K W1.F W1.io vs ds → some (Cell.lst ds.reverse, S1) = some (c, S') → ∃ a' xs, V.ref a = .ref a' ∧ SqL X.K W1.H a' xs ∧ ∀ p, W1.H p = none → Q (.ref p) (upd W1.H p (.lst xs.reverse)) := fun a vs h1 h2 h => by
    cases h
    refine ⟨a, vs, rfl, h1, fun p hp => ?_⟩
    obtain ⟨R2, f2, n⟩ := R1.newLst hp h2.reverse
    exact k _ _ R2 (f1.trans f2) (f1.hp _ hp) n
  unfold seqD at e2
  split at e2
  · cases e2
    obtain ⟨a, vs, rfl, h1, h2⟩ := r1.lst_inv
    exact fin a vs (.of (R1.sub _ _ h1)) h2 h
  · cases h
  · cases e2
    obtain ⟨a, vs, rfl, h1, h2⟩ := r1.sc_inv
    exact fin a vs (sqL_mono R1.sub h1) h2 h
  · cases e2
theorem u1 {k : Nat} {A : Around} (r : Room k A) : A.units + 1 < cLine := by have := u65 r; omega
end
section
variable {S : Ms} {fe fo fi fd : EF} {fk : KF} {fa : AF} {fc : CF} {d : D} {b : Bool}
@[simp] theorem kTup_ap : kTup fa S = (fa S).bind fun p => (keysD p.1).bind fun ks => if p.1.length ≤ LIM then some (ks, p.2) else none := rfl
@[simp] theorem eDGetT_ap : eDGetT fd fk S = (fd S).bind fun p => (fk p.2).bind fun q => (dTAt q.2 p.1).bind fun r => (vT r.2 q.1).bind fun d => some (d, q.2) := rfl
@[simp] theorem bDInT_ap : bDInT b fk fd S = (fk S).bind fun q => (fd q.2).bind fun p => (dTAt p.2 p.1).bind fun r => some (xor b (vT r.2 q.1).isSome, p.2) := rfl
@[simp] theorem sDPutT_ap : sDPutT fd fk fe S = (fe S).bind fun v => (fd v.2).bind fun p => (fk p.2).bind fun q => (dTAt q.2 p.1).bind fun r => if r.2.length < LIM then some (.nx, ⟨q.2.r, q.2.m.set r.1 (.dT (pT r.2 q.1 v.1))⟩) else none := rfl
@[simp] theorem cDT_ap : cDT S = some (.dT [], S) := rfl
@[simp] theorem eAppE_ap : eAppE fo fe S = (fo S).bind fun p => (lAt p.2 p.1).bind fun _ => (fe p.2).bind fun q => (lAt q.2 p.1).bind fun r => if r.2.length < LIM then some (.non, ⟨q.2.r, q.2.m.set r.1 (.lst (r.2 ++ [q.1]))⟩) else none := rfl
@[simp] theorem gSubE_ap : gSubE fo fi d S = (fo S).bind fun p => (fi p.2).bind fun q => (lAt q.2 p.1).bind fun r => match q.1 with
  | .int i => (ixN r.2.length i).bind fun j => some ⟨q.2.r, q.2.m.set r.1 (.lst (r.2.set j d))⟩
  | _ => none := rfl
@[simp] theorem eCel_ap : eCel fc S = (fc S).bind fun p => some (.ref p.2.m.length, ⟨p.2.r, p.2.m ++ [p.1]⟩) := rfl
@[simp] theorem cRev_ap : cRev fe S = (fe S).bind fun p => (seqD p.1).bind fun ds => match p.1 with
  | .tup _ => none
  | _ => some (.lst ds.reverse, p.2) := rfl
@[simp] theorem keysD_nil : keysD [] = some [] := rfl
@[simp] theorem keysD_int {i : Int} {r : List D} : keysD (.int i :: r) = (keysD r).bind fun q => some (Sum.inl i :: q) := rfl
@[simp] theorem keysD_str {i : Str} {r : List D} : keysD (.str i :: r) = (keysD r).bind fun q => some (Sum.inr i :: q) := rfl
@[simp] theorem dTAt_ref {k : Nat} : dTAt S (.ref k) = match S.m[k]? with
    | some (.dT kds) => some (k, kds)
    | _ => none := rfl
@[simp] theorem lAt_ref {k : Nat} : lAt S (.ref k) = match S.m[k]? with
    | some (.lst kds) => some (k, kds)
    | _ => none := rfl
end
theorem vT_put (kds : List (List Key × D)) (k j : List Key) (d : D) : vT (pT kds k d) j = if k = j then some d else vT kds j := by
  have hm : ∀ kds : List (List Key × D), vT (kds.map fun kd => if kd.1 = k then (kd.1, d) else kd) j = (vT kds j).map fun x => if k = j then d else x := by
    intro kds
    induction kds with
    | nil => rfl
    | cons p r ih =>
      obtain ⟨q, x⟩ := p
      rw [List.map_cons]
      by_cases h : q = k
      · subst h
        simp only [if_true, vT]
        by_cases h2 : q = j
        · simp [h2]
        · simp only [if_neg h2, ih]
      · simp only [if_neg h, vT]
        by_cases h2 : q = j
        · subst h2
          have : ¬ k = q := fun z => h z.symm
          simp [this]
        · simp only [if_neg h2, ih]
  have ha : ∀ kds : List (List Key × D), vT kds k = none → vT (kds ++ [(k, d)]) j = if k = j then some d else vT kds j := by
    intro kds
    induction kds with
    | nil => intro _; rfl
    | cons p r ih =>
      obtain ⟨q, x⟩ := p
      intro hn
      unfold vT at hn
      by_cases h : q = k
      · rw [if_pos h] at hn; cases hn
      · rw [if_neg h] at hn
        show (if q = j then some x else vT (r ++ [(k, d)]) j) = if k = j then some d else (if q = j then some x else vT r j)
        rw [ih hn]
        by_cases h2 : q = j
        · subst h2
          have : ¬ k = q := fun z => h z.symm
          simp [this]
        · simp [h2]
  unfold pT
  cases e : vT kds k with
  | none => simp only [Option.isSome_none, Bool.false_eq_true, if_false]; exact ha kds e
  | some x =>
    simp only [Option.isSome_some, if_true]
    rw [hm]
    by_cases h : k = j
    · subst h; rw [e]; simp
    · simp only [if_neg h]
      cases vT kds j <;> rfl
theorem pT_len (kds : List (List Key × D)) (k : List Key) (d : D) : (pT kds k d).length ≤ kds.length + 1 := by
  unfold pT
  split
  · simp
  · simp
end M

/-! comprehensions over a list that is a cell (it must stay as it is) -/
namespace M
open PySem PySem.Spec L2
/-- the value that a statement assigns, the scope of a comprehension -/
def asgV (s : Stmt) : Expr := match s with
  | .Assign _ v _ => v
  | _ => .Constant .none 0 ⟨0, 0, 0, 0⟩
def lcS (e : Expr) : Scope := match e with
  | .ListComp _ _ s _ => s
  | _ => { kind := .function, names := [], isGenerator := false, isCoroutine := false }
abbrev CiF := Ms → Option ((Nat × List D) × Ms)
structure YlC (K : PySem.W.Frag) (J : It) (W : Wd) (k : Nat) (ds : List D) : Prop where
  go : ∀ W2 S s, Rel K W2 S s → W.io <+: W2.io → S.m[k]? = some (.lst ds) → ∀ i d, ds[i]? = some d → J.go i W2.H ∧ ∀ x H', J.yld i W2.H x H' → ∃ W3, W3.H = H' ∧ Rel K W3 S s ∧ Fr W2 S.r s W3 S.r s ∧ RV K W3.F W3.io x d
  stop : ∀ W2 S s, Rel K W2 S s → W.io <+: W2.io → S.m[k]? = some (.lst ds) → J.stop ds.length W2.H
def TIokC (K : PySem.W.Frag) (wi : TI) (f : CiF) : Prop := ∀ S k ds S', f S = some ((k, ds), S') → ∀ W s (Rr : It → Hp → Prop), Rel K W S s → (∀ J W', Rel K W' S' s → Fr W S.r s W' S'.r s → YlC K J W' k ds → Rr J W'.H) → wi s W.H Rr
def MIc (X : Cx) (tg it : Expr) (f : CiF) : Prop := ∃ wi, PI X tg it wi ∧ TIokC X.K wi f
def iCel (f : EF) : CiF := fun S => (f S).bind fun p => (lAt p.2 p.1).bind fun q => some (q, p.2)
theorem mi_cel {X : Cx} {tg e : Expr} {fe : EF} (he : ME X e fe) : MIc X tg e (iCel fe) := by
  obtain ⟨t, p, q⟩ := he
  refine ⟨_, pi_list p, fun S kk ds S' h W s Rr R k => ?_⟩
  obtain ⟨⟨d1, S1⟩, e1, h⟩ := bind_some h
  obtain ⟨⟨k2, ds2⟩, e2, h⟩ := bind_some h
  cases h
  refine q S _ _ e1 W s _ R fun v W1 R1 f1 r1 => ?_
  obtain ⟨hd, a, vs, rfl, hio, h1, h2⟩ := lAt_ok R1 r1 e2
  refine ⟨a, rfl, ⟨vs, .of h1⟩, k _ W1 R1 f1 ⟨fun W2 S2 s2 R2 hi hg i d ed => ?_, fun W2 S2 s2 R2 hi hg => ?_⟩⟩
  · obtain ⟨vs2, g1, g2⟩ := R2.cells _ _ a hg (pre_get hi hio)
    obtain ⟨v, ev, rv⟩ := g2.get ed
    refine ⟨⟨vs2, v, .of g1, ev⟩, fun x H' y => ⟨W2, y.1.symm, R2, .refl, ?_⟩⟩
    have := y.2 vs2 (.of g1)
    rw [ev] at this; cases this
    exact rv
  · obtain ⟨vs2, g1, g2⟩ := R2.cells _ _ a hg (pre_get hi hio)
    exact ⟨vs2, .of g1, by rw [g2.length]; exact Nat.le_refl _⟩
open Classical in
noncomputable def lcMC (k : Nat) (all : List D) (g : GF) (t : BF) (f : EF) (vs : List Nat) : List D → List D → Ms → Option (List D × Ms)
  | [], acc, S => if S.m[k]? = some (.lst all) then some (acc, S) else none
  | d :: ds, acc, S => if S.m[k]? = some (.lst all) then (g d { S with r := wipeR S.r vs }).bind fun S1 => (t S1).bind fun p => if p.1 then (f p.2).bind fun q => if acc.length < LIM then lcMC k all g t f vs ds (acc ++ [q.1]) { q.2 with r := restR S.r q.2.r vs } else none
    else lcMC k all g t f vs ds acc { p.2 with r := restR S.r p.2.r vs } else none
open Classical in
theorem lcMC_nil' {k : Nat} {all : List D} {g : GF} {t : BF} {f : EF} {vs : List Nat} {acc : List D} {S : Ms} : lcMC k all g t f vs [] acc S = if S.m[k]? = some (.lst all) then some (acc, S) else none := rfl
open Classical in
theorem lcMC_cons' {k : Nat} {all : List D} {g : GF} {t : BF} {f : EF} {vs : List Nat} {d : D} {ds acc : List D} {S : Ms} : lcMC k all g t f vs (d :: ds) acc S = if S.m[k]? = some (.lst all) then (g d { S with r := wipeR S.r vs }).bind fun S1 => (t S1).bind fun p => if p.1 then (f p.2).bind fun q => if acc.length < LIM then lcMC k all g t f vs ds (acc ++ [q.1]) { q.2 with r := restR S.r q.2.r vs } else none
    else lcMC k all g t f vs ds acc { p.2 with r := restR S.r p.2.r vs } else none := rfl
noncomputable def cLcC (fi : CiF) (g : GF) (t : BF) (f : EF) (vs : List Nat) : CF := fun S => (fi S).bind fun p => (lcMC p.1.1 p.1.2 g t f vs p.1.2 [] p.2).bind fun q => some (.lst q.1, q.2)
theorem tf_lcC {K : PySem.W.Frag} {wi : TI} {tg : TG} {tt : TT} {te : TE} {vs : List Nat} {fi : CiF} {g : GF} {ft : BF} {fe : EF} (qi : TIokC K wi fi) (qg : TGok K tg g) (qt : TTok K tt ft) (qe : TEok K te fe)
    (hw : KG vs tg) : TFok K (tLc wi tg tt te vs) (cLcC fi g ft fe vs) := by
  intro S c S' h W s Q R k
  obtain ⟨⟨⟨kk, ds⟩, S1⟩, e1, h⟩ := bind_some h
  obtain ⟨⟨acc, S2⟩, e2, h⟩ := bind_some h
  cases h
  refine qi S kk ds S1 e1 W s _ R fun J W1 R1 f1 Y => ?_
  intro A hA
  obtain ⟨R1', f1', n1⟩ := R1.newLst (ds := []) hA .nil
  have hA0 : W.H A = none := f1.hp A hA
  refine ⟨fun i m H2 => m = ds.length - i ∧ i ≤ ds.length ∧ ∃ W2 S3 acc2, W2.H = H2 ∧ Rel K W2 S3 s ∧ Fr W1 S1.r s W2 S3.r s ∧ New K W2 S3 s A (.lst acc2) ∧ lcMC kk ds g ft fe vs (ds.drop i) acc2 S3 = some (acc, S2), ⟨ds.length, rfl, Nat.zero_le _, _, S1, [], rfl, R1', f1', n1, e2⟩, ?_⟩
  rintro i m H2 ⟨rfl, hi, W2, S3, acc2, rfl, R2, f2, n2, e3⟩
  by_cases hlt : i < ds.length
  · have ed : ds[i]? = some ds[i] := List.getElem?_eq_getElem hlt
    rw [List.drop_eq_getElem_cons hlt, lcMC_cons'] at e3
    split at e3
    rotate_left
    · cases e3
    rename_i hg
    obtain ⟨go, yl⟩ := Y.go W2 S3 s R2 f2.ix hg i _ ed
    obtain ⟨S4, e4, e3⟩ := bind_some e3
    obtain ⟨⟨b, S5⟩, e5, e3⟩ := bind_some e3
    refine .inr ⟨go, fun H3 => i + 1 ≤ ds.length ∧ ∃ W3 S6 acc3, W3.H = H3 ∧ Rel K W3 S6 s ∧ Fr W1 S1.r s W3 S6.r s ∧ New K W3 S6 s A (.lst acc3) ∧ lcMC kk ds g ft fe vs (ds.drop (i + 1)) acc3 S6 = some (acc, S2), ?_, fun x H' y => ?_⟩
    · rintro H3 ⟨hl, W3, S6, acc3, rfl, z⟩
      exact ⟨_, by omega, rfl, hl, W3, S6, acc3, rfl, z⟩
    · obtain ⟨W3, rfl, R3, f3, r3⟩ := yl x H' y
      have n3 := n2.keep (S1 := S3) f3
      obtain ⟨Rw, fw⟩ := R3.wipe vs
      refine hw.mono _ _ _ _ _ (fun s2 H2 z => z) (hw.mono _ _ _ (fun s2 H2 => L2.wipe s2 vs = L2.wipe (L2.wipe s vs) vs ∧ (L2.wipe s2 vs = L2.wipe s vs → tt s2 H2 fun b H3 => if b = true then te s2 H3 fun y H4 => ∃ acc, H4 A = some (.lst acc) ∧ acc.length < sizeLine ∧ (i + 1 ≤ ds.length ∧ ∃ W3 S6 acc3, W3.H = upd H4 A (.lst (acc ++ [y])) ∧ Rel K W3 S6 s ∧ Fr W1 S1.r s W3 S6.r s ∧ New K W3 S6 s A (.lst acc3) ∧ lcMC kk ds g ft fe vs (ds.drop (i + 1)) acc3 S6 = some _) else (i + 1 ≤ ds.length ∧ ∃ W3 S6 acc3, W3.H = H3 ∧ Rel K W3 S6 s ∧ Fr W1 S1.r s W3 S6.r s ∧ New K W3 S6 s A (.lst acc3) ∧ lcMC kk ds g ft fe vs (ds.drop (i + 1)) acc3 S6 = some _))) _ (fun s2 H2 z => ⟨z.1.trans wipe_wipe, z.2 (z.1.trans wipe_wipe)⟩) (hw.keep _ _ _ _ ?_))
      refine qg _ _ S4 e4 W3 _ x _ Rw r3 fun W4 s4 R4 f4 hs4 => ?_
      refine qt S4 b S5 e5 W4 s4 _ R4 fun W5 R5 f5 => ?_
      have f45 := f4.trans f5
      cases b with
      | false =>
        rw [if_neg Bool.false_ne_true]
        obtain ⟨R6, f6⟩ := R3.rest R5 f45 hs4
        exact ⟨hlt, W5, _, acc2, rfl, R6, (f2.trans f3).trans f6, n3.keep (S1 := { S5 with r := restR S3.r S5.r vs }) f6, e3⟩
      | true =>
        rw [if_pos rfl]
        rw [if_pos rfl] at e3
        obtain ⟨⟨d, S6⟩, e6, e3⟩ := bind_some e3
        simp only at e3
        split at e3
        · rename_i hlim
          refine qe S5 d S6 e6 W5 s4 _ R5 fun y W6 R6 f6 r6 => ?_
          obtain ⟨R7, f7⟩ := R3.rest R6 (f45.trans f6) hs4
          have n7 := n3.keep (S1 := { S6 with r := restR S3.r S6.r vs }) f7
          obtain ⟨vs7, h7, r7⟩ := n7.cr
          refine ⟨vs7, h7, by rw [r7.length]; exact Nat.lt_of_lt_of_le hlim lim_line, hlt, ?_⟩
          obtain ⟨R8, n8⟩ := R7.wrApart (c' := .lst (acc2 ++ [d])) (o := .lst (vs7 ++ [y])) n7 ⟨_, upd_same, r7.append (.cons r6 .nil)⟩
          refine ⟨_, _, acc2 ++ [d], rfl, R8, ?_, n8, e3⟩
          have ff := (f2.trans f3).trans f7
          refine ⟨ff.fx, ff.ix, fun b o h n => ?_, fun b h => ff.hp b (upd_none h)⟩
          obtain ⟨g1, g2⟩ := ff.ot b o h n
          have nb : b ≠ A := fun z => by rw [z, hA] at h; cases h
          exact ⟨by show upd _ A _ b = _; rw [upd_ne nb]; exact g1, g2⟩
        · cases e3
  · have ei : i = ds.length := by omega
    subst ei
    rw [List.drop_length, lcMC_nil'] at e3
    split at e3
    rotate_left
    · cases e3
    rename_i hg
    cases e3
    exact .inl ⟨Y.stop W2 _ s R2 f2.ix hg, k A W2 R2 (f1.trans f2) hA0 n2⟩


section
variable {X : Cx} {pos spos : Pos} {elt tg iter : Expr} {ifs : List Expr} {scope : Scope} {vs : List Nat} {own : List (Str × Nat)} {fi : CiF} {g : GF} {ft : BF} {fe : EF} {t1 : TG} {t2 : TT} {t3 : TE}
theorem mf_lcC (hc : X.calm = true) (hN : X.N.Nodup) (hi : MIc X tg iter fi) (ok : BlkOk X.N X.env.scope scope own)
    (hg : Blk X scope fun Y => MGk Y vs tg g) (ht : Blk X scope fun Y => MTs Y ifs ft) (he : Blk X scope fun Y => ME Y elt fe)
    (hvs : own.map (·.2) = vs := by rfl) (hs : ∀ x, foldedSetIterable iter X.env x = pure x := by intro _; rfl) : MF X (.ListComp elt [⟨tg, iter, ifs, 0⟩] scope pos) (cLcC fi g ft fe vs) := by
  subst hvs
  obtain ⟨wi, pi, qi⟩ := hi
  exact ⟨_, pe_lc hc hN pi ok (fun s H C cl fp => (hg s H C cl fp).pg) (fun s H C cl fp => (ht s H C cl fp).pt) (fun s H C cl fp => (he s H C cl fp).pe) hs, tf_lcC qi tgOf_ok ttOf_ok tOf_ok tgOf_k⟩
end
@[simp] theorem cLcC_ap {fi : CiF} {g : GF} {t : BF} {f : EF} {vs : List Nat} {S : Ms} : cLcC fi g t f vs S = (fi S).bind fun p => (lcMC p.1.1 p.1.2 g t f vs p.1.2 [] p.2).bind fun q => some (.lst q.1, q.2) := rfl
@[simp] theorem iCel_ap {f : EF} {S : Ms} : iCel f S = (f S).bind fun p => (lAt p.2 p.1).bind fun q => some (q, p.2) := rfl
theorem lcMC_map {α : Type} {kk : Nat} {all : List D} {g : GF} {t : BF} {f : EF} {vs : List Nat} {S : Ms} (hS : S.m[kk]? = some (.lst all)) (enc : α → D) (F : α → D) : ∀ (xs : List α) (acc : List D), (∀ x ∈ xs, stepC g t f vs S (enc x) = some (some (F x), S)) → acc.length + xs.length ≤ 1000000 →
    lcMC kk all g t f vs (xs.map enc) acc S = some (acc ++ xs.map F, S) := by
  intro xs
  induction xs with
  | nil => intro acc _ _; rw [List.map_nil, lcMC_nil', if_pos hS]; simp
  | cons x xs ih =>
    intro acc h hl
    have h1 := h x (by simp)
    have h2 : ∀ y ∈ xs, stepC g t f vs S (enc y) = some (some (F y), S) := fun y hy => h y (by simp [hy])
    simp only [List.length_cons] at hl
    rw [List.map_cons, lcMC_cons', if_pos hS]
    unfold stepC at h1
    obtain ⟨S1, e1, h1⟩ := bind_some h1
    obtain ⟨⟨b, S2⟩, e2, h1⟩ := bind_some h1
    rw [e1]
    simp only [Option.bind_some, e2]
    cases b with
    | true =>
      simp only [if_true] at h1 ⊢
      obtain ⟨⟨z, S3⟩, e3, h1⟩ := bind_some h1
      simp only [Option.some.injEq, Prod.mk.injEq] at h1
      obtain ⟨hF, hS'⟩ := h1
      rw [e3]
      simp only [Option.bind_some]
      rw [if_pos (show acc.length < LIM by unfold LIM; omega)]
      rw [hS', ih _ h2 (by simp only [List.length_append, List.length_cons, List.length_nil]; omega), hF]
      simp
    | false =>
      simp only [Bool.false_eq_true, if_false, Option.some.injEq, Prod.mk.injEq] at h1
      exact absurd h1.1 (by simp)
end M

/-! M12: repr of plain data; defs that run where no repr is under way (FnG) -/
namespace M
open PySem PySem.Spec L2
/-! how long a text may be -/
mutual
def szP : PyData → Nat
  | .int _ => 1921
  | .none | .bool _ => 5
  | .str x => (reprText x).length
  | .list xs | .tuple xs => szPs xs + 2
  | .dict _ => 0
def szPs : List PyData → Nat
  | [] => 0
  | x :: xs => szP x + 2 + szPs xs
end
theorem listText_le (ts : List Str) : (listText ts).length ≤ piled ts + 2 := by
  cases ts with
  | nil => decide +kernel
  | cons t r =>
    have h := textFrom_length_pos r 1 (("[" : Str) ++ (if (0 : Nat) > 0 then ", " else "" : String) ++ t) (by decide)
    have e : ((("[" : Str) ++ (if (0 : Nat) > 0 then ", " else "" : String) ++ t)).length = 1 + t.length := by
      rw [strLen_append, strLen_append]; rfl
    have x : (listText (t :: r)).length = (textFrom 1 (("[" : Str) ++ (if (0 : Nat) > 0 then ", " else "" : String) ++ t) r).length + 1 := by
      unfold listText
      rw [strLen_append]; rfl
    rw [x, h, e, piled_cons]; omega
mutual
theorem shown_le : ∀ p : PyData, p.showable = true → p.hasDict = false → p.shown.length ≤ szP p
  | .int i, h, _ => by
    simp only [PyData.showable, decide_eq_true_eq] at h
    simp only [PyData.shown, szP]
    exact PyProof.Rows.int_text_len_1921 h
  | .none, _, _ => by decide +kernel
  | .bool b, _, _ => by cases b <;> decide +kernel
  | .str x, _, _ => by simp only [PyData.shown, szP]; exact Nat.le_refl _
  | .list xs, h, n => by
    simp only [PyData.showable] at h
    simp only [PyData.hasDict] at n
    simp only [PyData.shown, szP]
    have := shown_les xs h n
    have := listText_le (PyData.shownAll xs)
    omega
  | .tuple xs, h, n => by
    simp only [PyData.showable] at h
    simp only [PyData.hasDict] at n
    simp only [PyData.shown, szP]
    have := shown_les xs h n
    have := fmt_text (PyData.shownAll xs)
    omega
  | .dict _, _, n => by simp [PyData.hasDict] at n
theorem shown_les : ∀ ps : List PyData, PyData.showableAll ps = true → PyData.hasDictAll ps = false → piled (PyData.shownAll ps) ≤ szPs ps
  | [], _, _ => by simp [PyData.shownAll, piled, szPs]
  | p :: ps, h, n => by
    simp only [PyData.showableAll, Bool.and_eq_true] at h
    simp only [PyData.hasDictAll, Bool.or_eq_false_iff] at n
    simp only [PyData.shownAll, szPs, piled_cons]
    have := shown_le p h.1 n.1
    have := shown_les ps h.2 n.2
    omega
end
/-! repr -/
def isSeqP : PyData → Bool
  | .list _ | .tuple _ => true
  | _ => false
def reprOk (p : PyData) : Prop := p.showable = true ∧ p.hasDict = false ∧ p.depth ≤ 60 ∧ szP p ≤ LIM ∧ isSeqP p = true
instance (p : PyData) : Decidable (reprOk p) := inferInstanceAs (Decidable (_ ∧ _))
def gRepr (d : D) : Option D := (toPy d).bind fun p => if reprOk p then some (.str p.shown) else none
section
variable {X : Cx}
theorem call_reprD (hg : X.A.guards = some []) (hu : X.A.units + 64 < cLine) : CallR X (.builtin "repr") (fun xs H Q => ∃ v p, xs = [v] ∧ Dp X.K H v p ∧ reprOk p ∧ Q (.str p.shown) H) := by
  rintro pins s σ H xs us Q I r ⟨v, p, rfl, hd, ⟨h1, h2, h3, h4, h5⟩, q⟩
  obtain ⟨u, rfl, rv⟩ := vals1 r
  obtain ⟨as, rd⟩ := Dp.reads I p v u hd rv
  have hz : p.shown.length ≤ sizeLine := Nat.le_trans (shown_le p h1 h2) (Nat.le_trans h4 lim_line)
  have isr : ∃ a, v = .ref a := by
    cases hd with
    | lst _ _ => exact ⟨_, rfl⟩
    | tup _ _ => exact ⟨_, rfl⟩
    | non => cases h5
    | bl _ => cases h5
    | int _ => cases h5
    | str _ => cases h5
  obtain ⟨a, rfl⟩ := isr
  obtain rfl : u = Value.ref a := rv
  exact repr_of_reads' rd h1 (PyData.noDict_hsm h2) hg (by omega) (fun _ _ z => z) (fun h' t tk hk => ⟨V.str p.shown, H, I.kept hk, ⟨t, rfl⟩, q⟩) hz
theorem cRepr (hg : X.A.guards = some []) (hu : X.A.units + 64 < cLine) : CallM X (.builtin "repr") gRepr := by
  refine ⟨_, call_reprD hg hu, fun x d z hz W S s Q R rx k => ?_⟩
  obtain ⟨p, hp, hz⟩ := bind_some hz
  split at hz
  · rename_i c
    cases hz
    exact ⟨x, p, rfl, rh_dp R rx hp, c, k _ W R .refl (.str _)⟩
  · cases hz
/-- == of two texts -/
def gEqS : D → D → Option D
  | .str a, .str b => some (.bl (decide (a = b)))
  | _, _ => none
theorem oEqS : OpM X (compareOp .Eq) gEqS := by
  refine ⟨_, op_eq, fun x y d e z hz W S s Q R rx ry k => ?_⟩
  unfold gEqS at hz
  split at hz
  · rename_i a b
    cases hz
    cases rhS rx
    cases rhS ry
    refine ⟨rfl, ?_⟩
    have : decide (V.str a = V.str b) = decide (a = b) := by rw [Bool.eq_iff_iff]; simp
    rw [this]
    exact k _ W R .refl (.bl _)
  · cases hz
end

open PyProof.Rows
/-! ### defs that run where no repr is under way -/
structure FnG (P : Program) (w : World) (K : PySem.W.Frag) (mg : Str → Option Value) (base : Heap) (k : Nat) (f : Addr) (fd : FuncData) (ps : List Str) (sp : Sp) : Prop where
  ln : ∀ vs H Q E, sp vs H Q E → vs.length = ps.length
  go : ∀ (A : Around) (out : List Env) (s : Shared) (H : Hp) (ar : Args) (us : List Value) (vs : List V) (Q : VK) (E : XK), Room k A → A.guards = some [] → Env0 P w K mg base A out s H →
    BindsTo s fd ar (ps.zip us) → Vals vs us → sp vs H Q E → codeAny (model P w) A (.call (.ref f) ar) (L2.CR CX0 out P w H s Q E) s
def GdOk (A : Around) : Prop := A.guards = some []
section
variable {P : Program} {w : World} {K : PySem.W.Frag} {mg : Str → Option Value} {base : Heap} {x qual : Str} {st : Stmt} {f : Addr} {fd : FuncData} {N ps : List Str} {k : Nat} {b : SF} {sp : Sp}
theorem FnG.imp (F : FnG P w K mg base k f fd ps sp) {sp' : Sp} (h : ∀ vs H Q E, sp' vs H Q E → sp vs H Q E) : FnG P w K mg base k f fd ps sp' :=
  ⟨fun _ _ _ _ q => F.ln _ _ _ _ (h _ _ _ _ q), fun A out s H ar us vs Q E r g e bd v q => F.go A out s H ar us vs Q E r g e bd v (h _ _ _ _ q)⟩
theorem fng_of (F : Fun K x qual st f fd) (S : FnScope N ps (defScope st)) (hl : ∀ vs H Q E, sp vs H Q E → vs.length = ps.length)
    (hb : ∀ (cdv : Value) (A : Around) (out : List Env) (s : Shared) (H : Hp) (vs : List V) (Q : VK) (E : XK), Room k (A.deeper (PyProof.Rows.envOfC qual (defScope st) s.heap.objs.size f cdv)) → A.guards = some [] → sp vs H Q E →
      ∃ t, PSs (cxOf CX0 P w K mg base N qual (defScope st) f cdv A out s H E) (defBody st) t ∧ t { nx := fun _ H1 => Q .non H1, rt := Q } (L2.start N vs) H) : FnG P w K mg base (k + 1) f fd ps sp := by
  obtain ⟨oc, od, kV, doc, pm, an, cdv, ct, osl, rfl, lk, hc⟩ := F.ex
  refine ⟨hl, fun A out s H ar us vs Q E room gd e0 bd rv hs => ?_⟩
  have kp : ∀ a o, base.get? a = some o → s.heap.get? a = some o := fun a o z => (e0.bs a o z).1
  have hK := e0.mod.kin.keeps kp
  refine codeAny_call_function room.depth (hK _ _ lk) rfl S.co S.gen rfl (PySem.W.codeRec_of hK hc) (bd _ _ _ _ ?_)
  refine wpAny_newFunctionEnv_cells S.kind (fun y hy => ?_) fun env eq s1 ic => ?_
  · rcases S.par y.1 (List.of_mem_zip hy).1 with z | z
    · exact Or.inl z
    · exact Or.inr ⟨z, PySem.W.cellsFrom_some _ _ _ (Or.inl z)⟩
  · subst eq
    refine ⟨(e0.mod.nolimit.keeps kp).keeps ic.toInCall.keep, codeAny_func ?_⟩
    obtain ⟨t, p, q⟩ := hb cdv A out s H vs Q E (room.deeper _) gd hs
    refine wpAny_mono (p.run [] s1 _ H _ (inv_start S room.hd e0 (hl _ _ _ _ hs) rv ic) q) (fun r s' z => ?_) fun _ _ z => z
    cases r with
    | ret u => obtain ⟨v, σ1, H1, J, r1, q1⟩ := z; exact ⟨v, H1, J.os, J.bare, J.base, J.hok, r1, q1⟩
    | next => obtain ⟨σ1, H1, J, q1⟩ := z; exact ⟨.non, H1, J.os, J.bare, J.base, J.hok, rfl, q1⟩
    | brk => obtain ⟨_, _, _, z⟩ := z; exact z.elim
    | cont => obtain ⟨_, _, _, z⟩ := z; exact z.elim
theorem fng_ok (F : Fun K x qual st f fd) (S : FnScope N ps (defScope st))
    (hb : ∀ (cdv : Value) (A : Around) (out : List Env) (s : Shared) (H : Hp) (E : XK), Room k (A.deeper (PyProof.Rows.envOfC qual (defScope st) s.heap.objs.size f cdv)) → A.guards = some [] →
      MSs (cxOf CX0 P w K mg base N qual (defScope st) f cdv A out s H E).nox (defBody st) b) : FnG P w K mg base (k + 1) f fd ps (spM K ps.length (fnM N.length b)) := by
  refine fng_of F S (fun vs H Q E h => h.1) (fun cdv A outer s H vs Q E hr hg h => ?_)
  obtain ⟨hl, W, ds, m, d, m', rfl, R, r, e, kk⟩ := h
  obtain ⟨t, p, q⟩ := hb cdv A outer s W.H E hr hg
  refine ⟨t, p.nox, ?_⟩
  unfold fnM at e
  obtain ⟨⟨fl, S'⟩, e1, e⟩ := bind_some e
  have own : ∀ b, ¬ Own (ds.map Slot.val ++ List.replicate (N.length - ds.length) Slot.emp) (L2.start N vs) b := fun b ⟨i, c, h, _⟩ => by
    have := List.mem_of_getElem? h
    simp at this
  refine q _ fl S' e1 W (L2.start N vs) _ (start_rel (n := 0) R r) fun W' s' R' f' => ?_
  have f0 := end_fr (S0 := ⟨ds.map Slot.val ++ List.replicate (N.length - ds.length) Slot.emp, m⟩) own f'
  cases fl with
  | nx => cases e; exact kk .non W' R'.bare f0 .non
  | rt d => cases e; exact fun v rv => kk v W' R'.bare f0 rv
  | bk => cases e
  | ct => cases e
end
/-- a def by its name, where no repr is under way -/
structure Fng (P : Program) (w : World) (K : PySem.W.Frag) (mg : Str → Option Value) (base : Heap) (k : Nat) (x : Str) (ps : List Str) (ff : FF) : Prop where
  ex : ∃ (f : Addr) (fd : FuncData), FnG P w K mg base k f fd ps (spM K ps.length ff) ∧ mg x = some (.ref f) ∧ PySem.W.keepIn K (.ref f) = true ∧ Binds K fd ps []
section
variable {X : Cx} {k n : Nat} {f : Addr} {fd : FuncData} {ps : List Str} {ff : FF} {sp : Sp} {x : Str} {p pos : Pos} {e : Expr} {es : List Expr} {fa : AF} {t : TA}
theorem run_fg {pins : List (Addr × Obj)} {σ : L2.St} {H : Hp} {s : Shared} {Q : VK} {us : List Value} {vs : List V} (F : FnG X.prog X.w X.K X.mg X.base k f fd ps sp) (hr : Room k X.A) (hg : X.A.guards = some []) (hb : Binds X.K fd ps [])
    (I : Inv X pins σ H s) (r : Vals vs us) (h : sp vs H Q E0) : wpAny (model X.prog X.w) X.A (call (.ref f) us) (EP X pins σ Q) X.xe s := by
  have hl : us.length = ps.length := r.length.symm.trans (F.ln _ _ _ _ h)
  have bd : BindsTo s fd ⟨us, []⟩ (ps.zip us) := by
    have z := hb s us I.kIn (by rw [List.append_nil]; exact hl)
    rwa [List.append_nil] at z
  refine wpAny_call (codeAny_mono (F.go X.A X.stack s H _ us vs Q E0 hr hg I.env0 bd r h) fun res s1 hq => ?_)
  cases res with
  | error e => exact hq.elim
  | ok fl => cases fl with
    | ret u => exact I.after hq
    | next => exact hq.elim
    | brk => exact hq.elim
    | cont => exact hq.elim
theorem me_g (G : Fng X.prog X.w X.K X.mg X.base k x ps ff) (hr : Room k X.A) (hgd : X.A.guards = some []) (ha : MA X (e :: es) fa) (hn : ps.length = n := by rfl)
    (hg : Gl X x := by rfl) (hdb : (x == ("__debug__" : Str)) = false := by decide) (he : starEach (e :: es) X.env = (false, eval e X.env) :: starEach es X.env := by rfl) (hpl : (backTo pos (starEach es X.env)).any (·.1) = false := by rfl) :
    ME X (.Call (.Name x p) (e :: es) [] pos) (eFn n ff fa) := by
  obtain ⟨f, fd, G, hm, hk, hb⟩ := G.ex
  rw [hn] at G
  obtain ⟨t, pa, qa⟩ := ha
  refine ⟨tCall (spM X.K n ff) [] E0 t, ⟨fun pins s σ H Q I h => ?_⟩, te_fn qa⟩
  refine wpAny_Call_Name_kw (ld_glob I hg hm (PySem.W.callWith_K (h₀ := X.base) I.ok.mod.kin hk (thn (pa.run pos pins s σ H _ I h) fun us s1 z => ?_) he hpl) hdb)
  obtain ⟨vs, H1, I1, r, q⟩ := z
  rw [List.append_nil] at q
  exact ⟨I1.kIn, run_fg G hr hgd hb I1 r q⟩
theorem me_g0 (G : Fng X.prog X.w X.K X.mg X.base k x [] ff) (hr : Room k X.A) (hgd : X.A.guards = some []) (hg : Gl X x := by rfl) (hdb : (x == ("__debug__" : Str)) = false := by decide) : ME X (.Call (.Name x p) [] [] pos) (eFn 0 ff aNil) := by
  obtain ⟨f, fd, G, hm, hk, hb⟩ := G.ex
  refine ⟨tCall (spM X.K 0 ff) [] E0 tNil, ⟨fun pins s σ H Q I h => ?_⟩, te_fn (fun S d S' h W s Q R k => by cases h; exact k _ W R .refl .nil)⟩
  exact wpAny_Call_Name_kw (ld_glob I hg hm (PySem.W.callWith_K0 I.kIn hk (run_fg (us := []) G hr hgd hb I .nil h)) hdb)
end
section
variable {P : Program} {w : World} {K : PySem.W.Frag} {mg : Str → Option Value} {base : Heap}
theorem fng {x qual : Str} {st : Stmt} {f : Addr} {fd : FuncData} {N ps : List Str} {k : Nat} {b : SF} (F : Fun K x qual st f fd) (hm : mg x = some (.ref f)) (S : FnScope N ps (defScope st))
    (hbi : ∀ (kV doc pm : Value) (an : Option Addr) (cdv ct : Value) (us : List Value), us.length = ps.length → bindArgs (PySem.W.fnOf x qual (defArgs st) (defBody st) (defScope st) .none kV doc pm an cdv ct) ⟨us, []⟩ = pure (ps.zip us))
    (hb : ∀ (cdv : Value) (A : Around) (out : List Env) (s : Shared) (H : Hp) (E : XK), Room k (A.deeper (PyProof.Rows.envOfC qual (defScope st) s.heap.objs.size f cdv)) → A.guards = some [] →
      MSs (cxOf CX0 P w K mg base N qual (defScope st) f cdv A out s H E).nox (defBody st) b) : Fng P w K mg base (k + 1) x ps (fnM N.length b) :=
  ⟨f, fd, fng_ok F S hb, hm, F.kp, F.binds hbi⟩
end
/-! ### the head, for such a law -/
/-- an abstract heap that knows the script, or nothing -/
theorem script_heap {P : Program} {w : World} {K : PySem.W.Frag} {s : Shared} {a : Addr} {vs : List Value} {ns : List Int} (KX : K.In s.heap) (ha : s.heap.get? a = some { cls := .type "list", data := .seq vs.toArray }) (hi : IntsAre vs ns) (hl : ns.length ≤ sizeLine) :
    ∃ H : Hp, Only H ∧ SqL K H a (ns.map V.int) ∧ HOk P w H s.heap ∧ ∀ b, H b ≠ none → b = a ∧ K.lookup a = none := by
  have rv := vals_ints hi
  have ln := hi.length
  cases hk : K.lookup a with
  | some o =>
    have e := KX a o hk
    rw [ha] at e
    cases e
    exact ⟨fun _ => none, fun _ => Or.inl rfl, Or.inr ⟨_, vs.toArray, _, hk, rfl, rfl, rfl, by rw [List.size_toArray, ln]; exact hl, by simpa using rv⟩, fun b u z => (by cases (show (none : Option HO) = some u from z)), fun b z => absurd rfl z⟩
  | none =>
    let o : Obj := { cls := .type "list", data := .seq vs.toArray }
    have at_a : (fun b => if b = a then some (HO.frz o (.lst (ns.map V.int))) else none) a = some (HO.frz o (.lst (ns.map V.int))) := if_pos rfl
    refine ⟨fun b => if b = a then some (.frz o (.lst (ns.map V.int))) else none, fun b => ?_, Or.inl (Or.inr ⟨o, at_a⟩), fun b u z => ?_, fun b z => ?_⟩
    · by_cases h : b = a
      · right; exact ⟨_, _, if_pos h⟩
      · left; exact if_neg h
    · by_cases h : b = a
      · subst h
        cases at_a.symm.trans z
        exact ⟨ha, by rw [List.length_map]; exact hl, vs, _, rv, ha⟩
      · cases (if_neg h).symm.trans z
    · by_cases h : b = a
      · exact ⟨h, rfl⟩
      · exact absurd (if_neg h) z
theorem law_callG {P : Program} {w : World} {K : PySem.W.Frag} {mg mb : Str → Option Value} {k : Nat} {fa a : Addr} {fd : FuncData} {x : Str} {sp : Sp} {s : Shared} {vs : List Value} {ns : List Int}
    (KX : K.In s.heap) (hm : s.heap.Ns mainGlobals mg) (hb : s.heap.Ns builtinsNs mb) (hbb : ∀ y : Str, y ≠ "__name__" → mb y = bootBuiltins y) (hn : s.heap.NoLimit) (hg : s.gens = #[])
    (ha : s.heap.get? a = some { cls := .type "list", data := .seq vs.toArray }) (hi : IntsAre vs ns) (hl : ns.length ≤ sizeLine) (hr : Room k callerA)
    (F : ∀ B : Heap, K.In B → B.Ns mainGlobals mg → FnG P w K mg B k fa fd [x] sp) (hx : ∀ (s : Shared) (u : Value), BindsTo s fd ⟨[u], []⟩ [(x, u)])
    (hs : ∀ H : Hp, Only H → SqL K H a (ns.map V.int) → sp [.ref a] H (fun v _ => v = .bl true) fun _ _ _ => False) :
    codeAny (model P w) callerA (.call (.ref fa) ⟨[.ref a], []⟩) (fun r s' => r = .ok (.ret (.bool true)) ∧ OldK s.heap s'.heap ∧ s'.os = s.os ∧ AllBare s'.gens) s := by
  obtain ⟨H, hO, hS, ok, hA⟩ := script_heap (P := P) (w := w) KX ha hi hl
  have free : ∀ {b : Addr} {o : Obj}, s.heap.get? b = some o → (b = a → False) → (hidT s.heap H).get? b = some o := fun {b o} e n => hidT_get e (by
    cases q : H b with
    | none => rfl
    | some u => exact (n (hA b (by rw [q]; simp)).1).elim)
  have nsF : ∀ {b : Addr} {m : Str → Option Value}, s.heap.Ns b m → (hidT s.heap H).Ns b m := fun {b m} ⟨o, es, ep, e, d, r⟩ => ⟨o, es, ep, free e (fun z => by
    subst z
    rw [ha] at e; cases e
    cases (show Data.seq vs.toArray _ = Data.dict es ep from d)), d, r⟩
  have hK : K.In (hidT s.heap H) := fun b o e => hidT_get (KX b o e) (by
    cases q : H b with
    | none => rfl
    | some u =>
      obtain ⟨z, n⟩ := hA b (by rw [q]; simp)
      subst z
      rw [n] at e; cases e)
  have M : Mod K mg (hidT s.heap H) := by
    obtain ⟨mc, c1, c2⟩ := hn
    exact ⟨hK, nsF hm, ⟨mb, nsF hb, hbb⟩, mc, nsF c1, c2⟩
  have e0 : Env0 P w K mg (hidT s.heap H) callerA [] s H :=
    ⟨rfl, M, fun _ _ e => of_hidT e, Nat.le_of_eq (hidT_size _ _), trivial, fun b z => absurd (show b ∈ ([] : List Addr) from z) (by simp), ok, .of_eq hg⟩
  refine codeAny_mono ((F _ hK (nsF hm)).go callerA [] s H ⟨[.ref a], []⟩ [.ref a] [.ref a] _ _ hr rfl e0 (hx s _) (.cons rfl .nil) (hs H hO hS)) fun res s1 h => ?_
  cases res with
  | error e => exact h.elim
  | ok fl => cases fl with
    | next => exact h.elim
    | brk => exact h.elim
    | cont => exact h.elim
    | ret u =>
      obtain ⟨v, H1, os, ba, un, ok1, r, q⟩ := h
      cases (show v = V.bl true from q)
      cases (show u = Value.bool true from r)
      refine ⟨rfl, OldK.of_keep fun b o e => ?_, os, ba⟩
      cases z : H b with
      | none => exact un.keep b o e z (fun y => absurd (show b ∈ ([] : List Addr) from y) (by simp)) (by simp)
      | some u =>
        rcases hO b with y | ⟨ob, xs, y⟩
        · rw [z] at y; cases y
        · obtain ⟨e1, _⟩ := ok b _ y
          obtain ⟨e2, _⟩ := ok1 b _ (un.frzs b ob _ y)
          rw [e] at e1; cases e1
          exact e2
theorem walk_ofG {l : PySem.W.OpenLaw} {n k : Nat} {q : Program} {loose : List Str} {XP : (Str → Option Value) → Heap → Prop} {YP : World → Heap → Prop} {d : DefRec} {K : Params → PySem.W.Frag} {sp : World → Sp} {x : Str}
    (hn : l.most = some n) (hz : n ≤ sizeLine) (hd : d.params.defaults = []) (hr : Room k callerA) (hY : ∀ (w : World) (h : Heap), YP w h → (K w.params).In h)
    (F : ∀ (w : World) (mg : Str → Option Value) (fa : Addr) (h : Heap), (K w.params).In h → h.Ns mainGlobals mg → mg d.name = some (.ref fa) →
      ∃ fd : FuncData, (∀ (s : Shared) (u : Value), BindsTo s fd ⟨[u], []⟩ [(x, u)]) ∧ ∀ B : Heap, (K w.params).In B → B.Ns mainGlobals mg → FnG l.prog w (K w.params) mg B k fa fd [x] (sp w))
    (hs : ∀ (w : World) (H : Hp) (a : Addr) (ns : List Int), ns.length ≤ n → (∀ z ∈ ns, Builtin.Int.intBits z ≤ 1048576) → Only H → SqL (K w.params) H a (ns.map V.int) → sp w [.ref a] H (fun v _ => v = .bl true) fun _ _ _ => False) :
    PySem.W.WalkO q loose XP YP l.row.toRowW d [] (fun f vs => PySem.call f vs) := by
  refine Att.attach_callB hn hd fun w s₀ s mg mb fa o pm cd doc a vs ns G Y ho hfd hcd hmg hobj hi hlen hb hg => ?_
  obtain ⟨fd, hx, hF⟩ := F w mg fa _ (hY w _ Y) G.T.g hmg
  exact law_callG (hY w _ Y) G.T.g G.T.b G.T.builtins G.T.nolimit hg hobj hi (Nat.le_trans hlen hz) hr hF hx fun H hO hS => hs w H a ns hlen hb hO hS
/-! ### a list display that may walk a cell or not -/
def isCelE (f : EF) (S : Ms) : Bool := match f S with
  | some (.ref _, _) => true
  | _ => false
def cIte (P : Ms → Bool) (a b : CF) : CF := fun S => if P S = true then a S else b S
theorem mf_ite {X : Cx} {e : Expr} {P : Ms → Bool} {a b : CF} (h1 : MF X e a) (h2 : MF X e b) : MF X e (cIte P a b) := by
  obtain ⟨t1, p1, q1⟩ := h1
  obtain ⟨t2, p2, q2⟩ := h2
  refine ⟨fun s H Q => t1 s H Q ∨ t2 s H Q, ⟨fun pins s σ H Q I h => ?_⟩, fun S c S' h W s Q R k => ?_⟩
  · rcases h with h | h
    · exact p1.run pins s σ H Q I h
    · exact p2.run pins s σ H Q I h
  · unfold cIte at h
    split at h
    · exact Or.inl (q1 S c S' h W s Q R k)
    · exact Or.inr (q2 S c S' h W s Q R k)
@[simp] theorem cIte_ap {P : Ms → Bool} {a b : CF} {S : Ms} : cIte P a b S = if P S = true then a S else b S := rfl
end M

/-! M13: dicts with ints and texts for keys; defs that call themselves; index among texts -/
namespace M
open PySem PySem.Spec L2 PyProof.Rows
def lkK (kds : List (Key × D)) (k : Key) : Option D := match kds with
  | [] => none
  | (j, d) :: r => if j = k then some d else lkK r k
def ptK (kds : List (Key × D)) (k : Key) (d : D) : List (Key × D) := if (lkK kds k).isSome then kds.map fun kd => if kd.1 = k then (kd.1, d) else kd else kds ++ [(k, d)]
def dK : Key → D
  | .inl i => .int i
  | .inr s => .str s
section
variable {K : PySem.W.Frag} {F : Hp} {io : List Addr}
theorem RVk.look {k : Key} : ∀ {kvs : List (Key × V)} {kds : List (Key × D)}, RVk K F io kvs kds → (lkK kds k = none → valV kvs k = none) ∧ ∀ d, lkK kds k = some d → ∃ v, valV kvs k = some v ∧ RV K F io v d
  | _, _, .nil => ⟨fun _ => rfl, fun d h => by cases h⟩
  | (j, x) :: r, (_, y) :: r', .cons q t => by
    obtain ⟨i1, i2⟩ := RVk.look (k := k) t
    unfold lkK
    by_cases h : j = k
    · rw [if_pos h, valV_pos (p := (j, x)) h]
      exact ⟨(fun z => by cases z), (fun d z => by cases z; exact ⟨x, rfl, q⟩)⟩
    · rw [if_neg h, valV_neg (p := (j, x)) h]
      exact ⟨i1, i2⟩
theorem RVk.len : ∀ {kvs : List (Key × V)} {kds : List (Key × D)}, RVk K F io kvs kds → kvs.length = kds.length
  | _, _, .nil => rfl
  | _, _, .cons _ t => congrArg (· + 1) (RVk.len t)
theorem RVk.repl {k : Key} {v : V} {d : D} (h : RV K F io v d) : ∀ {kvs : List (Key × V)} {kds : List (Key × D)}, RVk K F io kvs kds → RVk K F io (kvs.map fun kv => if kv.1 = k then (kv.1, v) else kv) (kds.map fun kd => if kd.1 = k then (kd.1, d) else kd)
  | _, _, .nil => .nil
  | (j, x) :: r, (_, y) :: r', .cons q t => by
    have ih := RVk.repl (k := k) h t
    rw [List.map_cons, List.map_cons]
    by_cases c : j = k
    · dsimp only; rw [if_pos c, if_pos c]; exact .cons h ih
    · dsimp only; rw [if_neg c, if_neg c]; exact .cons q ih
theorem RVk.snoc {k : Key} {v : V} {d : D} (h : RV K F io v d) : ∀ {kvs : List (Key × V)} {kds : List (Key × D)}, RVk K F io kvs kds → RVk K F io (kvs ++ [(k, v)]) (kds ++ [(k, d)])
  | _, _, .nil => .cons h .nil
  | _, _, .cons a t => .cons a (RVk.snoc h t)
theorem RVk.put {k : Key} {v : V} {d : D} (h : RV K F io v d) {kvs : List (Key × V)} {kds : List (Key × D)} (r : RVk K F io kvs kds) : RVk K F io (putK kvs k v) (ptK kds k d) := by
  unfold putK ptK
  have hs : (kvs.any fun kv => decide (kv.1 = k)) = (lkK kds k).isSome := by
    rw [valV_any]
    obtain ⟨i1, i2⟩ := r.look (k := k)
    cases e : lkK kds k with
    | none => rw [i1 e]; rfl
    | some d' => obtain ⟨v', e', _⟩ := i2 d' e; rw [e']; rfl
  rw [hs]
  split
  · exact r.repl h
  · exact r.snoc h
theorem RVk.keys : ∀ {kvs : List (Key × V)} {kds : List (Key × D)}, RVk K F io kvs kds → RVs K F io (kvs.map fun kv => kV kv.1) (kds.map fun kd => dK kd.1)
  | _, _, .nil => .nil
  | (j, x) :: r, (_, y) :: r', .cons q t => by
    refine .cons ?_ (RVk.keys t)
    cases j with
    | inl i => exact .int i
    | inr s => exact .str s
theorem keyD_rh {W : Wd} {y : V} {e : D} {k : Key} (h : keyD e = some k) (r : RH K W y e) : y = kV k := by
  unfold keyD at h
  split at h
  · cases h; exact rhI r
  · cases h; exact rhS r
  · cases h
theorem keyD_rv {y : V} {e : D} {k : Key} (h : keyD e = some k) (r : RV K F io y e) : y = kV k := by
  unfold keyD at h
  split at h
  · cases h; exact r.int_inv
  · cases h; exact r.str_inv
  · cases h
end
/-! reading -/
def gIxK (d e : D) : Option D := match d with
  | .dct kds => (keyD e).bind fun k => lkK kds k
  | _ => none
def orG (g g' : D → D → Option D) : D → D → Option D := fun d e => (g d e).or (g' d e)
def gIx2 : D → D → Option D := orG gIx gIxK
def rDG : R2 := fun x y H Q => ∃ a v, x = .ref a ∧ DGet H a y (some v) ∧ Q v H
theorem rDG_ok {K : PySem.W.Frag} : ∀ x y d e z, gIxK d e = some z → ∀ W S s (Q : VK), Rel K W S s → RH K W x d → RH K W y e → (∀ v W', Rel K W' S s → Fr W S.r s W' S.r s → RV K W'.F W'.io v z → Q v W'.H) → rDG x y W.H Q := by
  intro x y d e z h W S s Q R rx ry k
  unfold gIxK at h
  split at h
  · rename_i kds
    obtain ⟨key, e1, h⟩ := bind_some h
    obtain ⟨a, kvs, rfl, h1, h2⟩ := rx
    obtain ⟨v, e2, q⟩ := h2.look.2 _ h
    refine ⟨a, v, rfl, ?_, k v W R .refl q⟩
    rw [keyD_rh e1 ry, ← e2]
    exact .k h1
  · cases h
section
variable {X : Cx} {pos xp : Pos} {a b e : Expr} {fa fb fe : EF} {g g' : D → D → Option D} {x : Str}
theorem me_ixK (hu : X.A.units + 1 < cLine) (ha : ME X a fa) (hb : ME X b fb) (hs : NoSl b := by intro _ _; rfl) : ME X (.Subscript a b pos) (eOp gIxK fa fb) := by
  obtain ⟨ta, p1, q1⟩ := ha
  obtain ⟨tb, p2, q2⟩ := hb
  exact ⟨tOp rDG ta tb, pe_dget hu p1 p2 hs, te_op rDG_ok q1 q2⟩
theorem me_ixKV (hu : X.A.units + 1 < cLine) (i : Nat) (hb : ME X b fb) (hs : NoSl b := by intro _ _; rfl) (hN : X.N[i]? = some x := by rfl) (hv : Vis X.env.scope x := by first | exact Or.inl rfl | exact Or.inr (Or.inl rfl) | exact Or.inr (Or.inr rfl))
    (hd : (x == ("__debug__" : Str)) = false := by decide) (hcd : (x == ("__classdict__" : Str)) = false := by decide) : ME X (.Subscript (.Name x xp) b pos) (eOpL gIxK i fb) := by
  obtain ⟨tb, p2, q2⟩ := hb
  exact ⟨tOp rDG (tVar i) tb, pe_dget hu (pe_var hN hv hd hcd) p2 hs, te_opL rDG_ok q2⟩
theorem or_some {α : Type} {o p : Option α} {z : α} (h : o.or p = some z) : o = some z ∨ p = some z := by
  cases o with
  | none => exact .inr h
  | some x => exact .inl h
theorem me_or2 (h1 : ME X e (eOp g fa fb)) (h2 : ME X e (eOp g' fa fb)) : ME X e (eOp (orG g g') fa fb) := by
  obtain ⟨t1, p1, q1⟩ := h1
  obtain ⟨t2, p2, q2⟩ := h2
  refine ⟨fun s H Q => t1 s H Q ∨ t2 s H Q, ⟨fun pins s σ H Q I h => ?_⟩, fun S d S' h W s Q R k => ?_⟩
  · rcases h with h | h
    · exact p1.run pins s σ H Q I h
    · exact p2.run pins s σ H Q I h
  · obtain ⟨p, e1, h⟩ := bind_some h
    obtain ⟨q, e2, h⟩ := bind_some h
    obtain ⟨z, e3, h⟩ := bind_some h
    rcases or_some e3 with e3 | e3
    · exact .inl (q1 S d S' (by show (fa S).bind _ = _; rw [e1]; show (fb p.2).bind _ = _; rw [e2]; show (g _ _).bind _ = _; rw [e3]; exact h) W s Q R k)
    · exact .inr (q2 S d S' (by show (fa S).bind _ = _; rw [e1]; show (fb p.2).bind _ = _; rw [e2]; show (g' _ _).bind _ = _; rw [e3]; exact h) W s Q R k)
theorem me_or2V {i : Nat} (h1 : ME X e (eOpL g i fb)) (h2 : ME X e (eOpL g' i fb)) : ME X e (eOpL (orG g g') i fb) := by
  obtain ⟨t1, p1, q1⟩ := h1
  obtain ⟨t2, p2, q2⟩ := h2
  refine ⟨fun s H Q => t1 s H Q ∨ t2 s H Q, ⟨fun pins s σ H Q I h => ?_⟩, fun S d S' h W s Q R k => ?_⟩
  · rcases h with h | h
    · exact p1.run pins s σ H Q I h
    · exact p2.run pins s σ H Q I h
  · unfold eOpL at h
    split at h
    · rename_i hh
      obtain ⟨q, e2, h⟩ := bind_some h
      obtain ⟨y, e1, h⟩ := bind_some h
      obtain ⟨z, e3, h⟩ := bind_some h
      rcases or_some e3 with e3 | e3
      · exact .inl (q1 S d S' (by unfold eOpL; rw [if_pos hh, e2]; show (sees i q.2).bind _ = _; rw [e1]; show (g _ _).bind _ = _; rw [e3]; exact h) W s Q R k)
      · exact .inr (q2 S d S' (by unfold eOpL; rw [if_pos hh, e2]; show (sees i q.2).bind _ = _; rw [e1]; show (g' _ _).bind _ = _; rw [e3]; exact h) W s Q R k)
    · cases h
theorem me_ix2 (hu : X.A.units + 1 < cLine) (ha : ME X a fa) (hb : ME X b fb) (hs : PlainIx b := by intro _ _; rfl) : ME X (.Subscript a b pos) (eOp gIx2 fa fb) := me_or2 (me_ix oIx ha hb hs) (me_ixK hu ha hb hs)
theorem me_ix2V (hu : X.A.units + 1 < cLine) (i : Nat) (hb : ME X b fb) (hs : PlainIx b := by intro _ _; rfl) (hN : X.N[i]? = some x := by rfl) (hv : Vis X.env.scope x := by first | exact Or.inl rfl | exact Or.inr (Or.inl rfl) | exact Or.inr (Or.inr rfl))
    (hd : (x == ("__debug__" : Str)) = false := by decide) (hcd : (x == ("__classdict__" : Str)) = false := by decide) : ME X (.Subscript (.Name x xp) b pos) (eOpL gIx2 i fb) := me_or2V (me_ixV i oIx hb hs hN hv hd hcd) (me_ixKV hu i hb hs hN hv hd hcd)
end
/-! writing -/
def modD (i : Nat) (h : List (Key × D) → Option (List (Key × D))) (S : Ms) : Option Ms := match S.r[i]? with
  | some (.own (.dct ds)) => (h ds).bind fun es => some { S with r := S.r.set i (.own (.dct es)) }
  | some (.val (.ref k)) => match S.m[k]? with
    | some (.dct ds) => (h ds).bind fun es => some { S with m := S.m.set k (.dct es) }
    | _ => none
  | _ => none
def putAt (d e : D) (kds : List (Key × D)) : Option (List (Key × D)) := (keyD e).bind fun k => if kds.length < LIM then some (ptK kds k d) else none
def gSubK (i : Nat) (f : EF) : GF := fun d S => if held i S then (f S).bind fun p => modD i (putAt d p.1) p.2 else none
def gAlt (g g' : GF) : GF := fun d S => (g d S).or (g' d S)
theorem modD_ok {K : PySem.W.Frag} {W : Wd} {S S' : Ms} {s : L2.St} (R : Rel K W S s) {i : Nat} {h : List (Key × D) → Option (List (Key × D))} (e : modD i h S = some S') : ∃ a ds es vs, s[i]? = some (some (.ref a)) ∧ h ds = some es ∧ W.H a = some (.dK vs) ∧ RVk K W.F W.io vs ds ∧
    ∀ ws, RVk K W.F W.io ws es → Rel K (W.wr a (.dK ws)) S' s ∧ Fr W S.r s (W.wr a (.dK ws)) S'.r s := by
  unfold modD at e
  split at e
  · rename_i ds q
    obtain ⟨es, e1, e⟩ := bind_some e
    cases e
    obtain ⟨a, e2, n1, n2, vs, h1, h2⟩ := R.owns i _ q
    refine ⟨a, ds, es, vs, e2, e1, h1, h2, fun ws r => ?_⟩
    exact R.wrOwn q e2 (c' := .dct es) ⟨ws, upd_same, r⟩
  · rename_i k q
    split at e
    · rename_i ds q2
      obtain ⟨es, e1, e⟩ := bind_some e
      cases e
      obtain ⟨v, e2, r⟩ := R.slots i _ q
      obtain ⟨a, rfl, e3⟩ := r.ref_inv
      obtain ⟨vs, h1, h2⟩ := R.cells k _ a q2 e3
      refine ⟨a, ds, es, vs, e2, e1, h1, h2, fun ws r => ?_⟩
      exact R.wrCell e3 (c' := .dct es) ⟨ws, upd_same, r⟩
    · cases e
  · cases e
section
variable {X : Cx} {pos xp : Pos} {x : Str} {e : Expr} {g g' : GF}
theorem set_dict (hu : X.A.units + 1 < cLine) : PSet X (fun o i v H Q => ∃ a H', o = .ref a ∧ DPut H a i v H' ∧ Q H') := by
  rintro pins s σ H o i v ov iv u Q I ro ri rv ⟨a, H', rfl, g, q⟩
  obtain rfl : ov = Value.ref a := ro
  exact d_setItem hu I g ri rv fun s' I' => ⟨H', I', q⟩
theorem mg_subK (hu : X.A.units + 1 < cLine) (i : Nat) {ie : Expr} {fi : EF} (hi : ME X ie fi) (hN : X.N[i]? = some x := by rfl) (hv : Vis X.env.scope x := by first | exact Or.inl rfl | exact Or.inr (Or.inl rfl) | exact Or.inr (Or.inr rfl))
    (hd : (x == ("__debug__" : Str)) = false := by decide) (hcd : (x == ("__classdict__" : Str)) = false := by decide)
    (ha : ∀ v, assign (.Subscript (.Name x xp) ie pos) X.env v = (do
      let ov ← holding [v] (eval (.Name x xp) X.env)
      let iv ← holding [v, ov] (eval ie X.env)
      standAt pos
      holding [v, ov, iv] (setItem ov iv v)
      release [v, ov, iv] []) := by intro _; rfl) : MG X (.Subscript (.Name x xp) ie pos) (gSubK i fi) := by
  obtain ⟨t, p, q⟩ := hi
  refine ⟨_, pg_sub (pe_var hN hv hd hcd) p (set_dict hu) ha, fun d S S' h W s v Q R r k => ?_⟩
  unfold gSubK at h
  split at h
  · rename_i hh
    obtain ⟨⟨d1, S1⟩, e1, h⟩ := bind_some h
    obtain ⟨u, eu⟩ := R.held hh
    refine ⟨u, eu, ?_⟩
    refine q S _ _ e1 W s _ R fun y W1 R1 f1 r1 => ?_
    obtain ⟨a, ds, es, vs, e2, e3, h1, h2, kk⟩ := modD_ok R1 h
    rw [eu] at e2; cases e2
    obtain ⟨key, ek, e3⟩ := bind_some e3
    split at e3
    · rename_i hl
      cases e3
      obtain ⟨R2, f2⟩ := kk _ (h2.put (k := key) (r.up f1))
      refine ⟨a, _, rfl, ?_, k _ _ R2 (f1.trans f2)⟩
      rw [keyD_rv ek r1]
      exact .k h1 (by rw [h2.len]; exact Nat.lt_of_lt_of_le hl lim_line)
    · cases e3
  · cases h
theorem mg_alt (h1 : MG X e g) (h2 : MG X e g') : MG X e (gAlt g g') := by
  obtain ⟨t1, p1, q1⟩ := h1
  obtain ⟨t2, p2, q2⟩ := h2
  refine ⟨fun v s H Q => t1 v s H Q ∨ t2 v s H Q, ⟨fun pins s σ H v u Q I r h => ?_⟩, fun d S S' h W s v Q R r k => ?_⟩
  · rcases h with h | h
    · exact p1.run pins s σ H v u Q I r h
    · exact p2.run pins s σ H v u Q I r h
  · rcases or_some h with h | h
    · exact .inl (q1 d S S' h W s v Q R r k)
    · exact .inr (q2 d S S' h W s v Q R r k)
end
/-! {}, len, list -/
def cDK : CF := fun S => some (.dct [], S)
section
variable {X : Cx} {pos : Pos}
theorem mf_dK : MF X (.Dict [] [] pos) cDK := by
  refine ⟨_, pe_dnewK, fun S c S' h W s Q R k => ?_⟩
  cases h
  intro p hp
  obtain ⟨R1, f1⟩ := R.wrNew (o := .dK []) hp
  exact k p _ R1 f1 hp ⟨R.freshF hp, R.freshIo hp, R.freshOwn hp, [], upd_same, .nil⟩
def orC (g g' : D → Option D) : D → Option D := fun d => (g d).or (g' d)
theorem CallM.or {f : Value} {g g' : D → Option D} (h : CallM X f g) (h' : CallM X f g') : CallM X f (orC g g') := by
  obtain ⟨r, a, b⟩ := h
  obtain ⟨r', a', b'⟩ := h'
  refine ⟨_, a.or a', fun x d z e W S s Q R rx k => ?_⟩
  rcases or_some e with e | e
  · exact .inl (b x d z e W S s Q R rx k)
  · exact .inr (b' x d z e W S s Q R rx k)
def orF (g g' : D → Option Cell) : D → Option Cell := fun d => (g d).or (g' d)
theorem CallMF.or {f : Value} {g g' : D → Option Cell} (h : CallMF X f g) (h' : CallMF X f g') : CallMF X f (orF g g') := by
  obtain ⟨r, a, b⟩ := h
  obtain ⟨r', a', b'⟩ := h'
  refine ⟨_, a.or a', fun x d z e W S s Q R rx k => ?_⟩
  rcases or_some e with e | e
  · exact .inl (b x d z e W S s Q R rx k)
  · exact .inr (b' x d z e W S s Q R rx k)
def gLenK : D → Option D
  | .dct kds => some (.int kds.length)
  | _ => none
theorem cLenK : CallM X (.builtin "len") gLenK := by
  refine ⟨_, call_lenD, fun x d z e W S s Q R rx k => ?_⟩
  unfold gLenK at e
  split at e
  · cases e
    obtain ⟨a, kvs, rfl, h1, h2⟩ := rx
    exact ⟨a, kvs, rfl, h1, by rw [h2.len]; exact k _ W R .refl (.int _)⟩
  · cases e
def gLen2 := orC gLen gLenK
theorem cLen2 : CallM X (.builtin "len") gLen2 := cLen.or cLenK
def gListK : D → Option Cell
  | .dct kds => some (.lst (kds.map fun kd => dK kd.1))
  | _ => none
theorem cListK (hc : X.calm = true) : CallMF X (.type "list") gListK := by
  refine ⟨_, call_listD hc, fun x d c e W S s Q R rx k => ?_⟩
  unfold gListK at e
  split at e
  · cases e
    obtain ⟨a, kvs, rfl, h1, h2⟩ := rx
    refine ⟨a, kvs, rfl, .inl h1, fun p hp => ?_⟩
    obtain ⟨R2, f2, n⟩ := R.newLst hp h2.keys
    exact k p _ hp n R2 f2
  · cases e
def gList2 := orF gList gListK
theorem cList2 (hc : X.calm = true) : CallMF X (.type "list") gList2 := cList.or (cListK hc)
end
/-! a def that calls itself -/
theorem mss_none {X : Cx} {st : List Stmt} : MSs X st (fun _ => none) := ⟨fun _ _ _ => False, ⟨fun _ _ _ _ _ _ h => h.elim⟩, fun S fl S' h => by cases h⟩
/-! index in a list -/
def firstP (d : PyData) : List PyData → Option Nat
  | [] => none
  | p :: ps => if PyData.eqv p d = true then some 0 else (firstP d ps).map (· + 1)
theorem firstP_ok {d : PyData} : ∀ {ps : List PyData} {j : Nat}, firstP d ps = some j → (∃ z, ps[j]? = some z ∧ PyData.eqv z d = true) ∧ ∀ (m : Nat) (z : PyData), m < j → ps[m]? = some z → PyData.eqv z d = false
  | [], _, h => by cases h
  | p :: ps, j, h => by
    unfold firstP at h
    split at h
    · rename_i c
      cases h
      exact ⟨⟨p, rfl, c⟩, fun m z hm => absurd hm (Nat.not_lt_zero _)⟩
    · rename_i c
      cases e : firstP d ps with
      | none => rw [e] at h; cases h
      | some i =>
        rw [e] at h
        cases h
        obtain ⟨⟨z, h1, h2⟩, h3⟩ := firstP_ok e
        refine ⟨⟨z, by simpa using h1, h2⟩, fun m z hm hz => ?_⟩
        cases m with
        | zero =>
          simp only [List.getElem?_cons_zero, Option.some.injEq] at hz
          subst hz
          simpa using c
        | succ m => exact h3 m z (Nat.lt_of_succ_lt_succ hm) (by simpa using hz)
def gIdx (x y : D) : Option D := match x with
  | .lst ds => (toPys ds).bind fun ps => (toPy y).bind fun d => if SeqAt.shaped (.list ps) = true ∧ SeqAt.shaped d = true then (firstP d ps).map fun j => .int (j : Nat) else none
  | _ => none
def eIdxE (fo fe : EF) : EF := fun S => (fo S).bind fun p => match p.1 with
  | .lst ds => (fe p.2).bind fun q => (gIdx (.lst ds) (vw q.2 q.1)).bind fun z => some (z, q.2)
  | _ => none
theorem me_idxE {X : Cx} {o e : Expr} {fo fe : EF} {apos pos : Pos} (hu : X.A.units + 65 < cLine) (ho : ME X o fo) (he : ME X e fe)
    (hbase : attributeBase o "index" X.env (eval o X.env) = eval o X.env := by rfl)
    (hfew : ((backTo pos (starEach [e] X.env)).all (fun x => !x.1) && (backToKw pos (keywordEach [] X.env)).all (fun x => x.1.isSome)
      && decide ([e].length + ([] : List Keyword).length + (if ([] : List Keyword).isEmpty then 0 else 1) < 30)) = true := by rfl)
    (hline : (apos.endLine == pos.line) = true := by rfl) (hs : starEach [e] X.env = (false, eval e X.env) :: starEach [] X.env := by rfl) (hplain : (backTo pos (starEach [] X.env)).any (·.1) = false := by rfl) :
    ME X (.Call (.Attribute o "index" apos) [e] [] pos) (eIdxE fo fe) := by
  obtain ⟨t, p, q⟩ := ho
  obtain ⟨t2, p2, q2⟩ := he
  refine ⟨_, pe_bm PySem.F.plainAttrs_list PySem.F.slot_list_index PySem.F.type_list_index (mt_indexD hu) p (pa_cons p2 pa_nil hs) hbase hfew hline hs hplain, fun S d S' h W s Q R k => ?_⟩
  obtain ⟨⟨d1, S1⟩, e1, h⟩ := bind_some h
  simp only at h
  split at h
  · rename_i ds
    obtain ⟨⟨d2, S2⟩, e2, h⟩ := bind_some h
    obtain ⟨z, e3, h⟩ := bind_some h
    cases h
    refine q S _ _ e1 W s _ R fun v W1 R1 f1 r1 => ?_
    have r1' := r1
    obtain ⟨a, vs, rfl, h1, h2⟩ := r1'.lst_inv
    refine ⟨.inl ⟨rfl, vs, .of (R1.sub _ _ h1)⟩, ?_⟩
    refine q2 S1 _ _ e2 W1 s _ R1 fun y W2 R2 f2 r2 => ?_
    simp only at e3
    unfold gIdx at e3
    obtain ⟨ps, c1, e3⟩ := bind_some e3
    obtain ⟨pd, c2, e3⟩ := bind_some e3
    split at e3
    · rename_i sh
      cases e4 : firstP pd ps with
      | none => rw [e4] at e3; cases e3
      | some j =>
        rw [e4] at e3
        cases e3
        obtain ⟨⟨zz, hz1, hz2⟩, hz3⟩ := firstP_ok e4
        exact ⟨a, y, pd, ps, j, zz, rfl, rfl, RV.dp R2.sub (r1.up f2) _ (by simp [toPy, c1]), rh_dp R2 (R2.vw r2) c2, sh.1, sh.2, hz1, hz2, hz3, k _ W2 R2 (f1.trans f2) (.int _)⟩
    · cases e3
  · cases h
section
variable {S : Ms} {f fo fe : EF} {i : Nat} {d e : D} {kds : List (Key × D)} {ds : List D} {g g' : GF}
@[simp] theorem gIx2_lst : gIx2 (.lst ds) e = gIx (.lst ds) e := by unfold gIx2 orG; simp [gIxK]
@[simp] theorem gIx2_tup : gIx2 (.tup ds) e = gIx (.tup ds) e := by unfold gIx2 orG; simp [gIxK]
@[simp] theorem gIx2_sc : gIx2 (.sc ds) e = gIx (.sc ds) e := by unfold gIx2 orG; simp [gIxK]
@[simp] theorem gIx2_str {x : Str} : gIx2 (.str x) e = gIx (.str x) e := by unfold gIx2 orG; simp [gIxK]
@[simp] theorem gIx2_dctS {x : Str} : gIx2 (.dct kds) (.str x) = lkK kds (.inr x) := by unfold gIx2 orG gIx; simp [gIxK, keyD]
@[simp] theorem gIx2_dctI {x : Int} : gIx2 (.dct kds) (.int x) = lkK kds (.inl x) := by unfold gIx2 orG gIx; simp [gIxK, keyD]
@[simp] theorem gLen2_lst : gLen2 (.lst ds) = some (.int ds.length) := rfl
@[simp] theorem gLen2_tup : gLen2 (.tup ds) = some (.int ds.length) := rfl
@[simp] theorem gLen2_sc : gLen2 (.sc ds) = some (.int ds.length) := rfl
@[simp] theorem gLen2_dct : gLen2 (.dct kds) = some (.int kds.length) := rfl
@[simp] theorem gList2_lst : gList2 (.lst ds) = some (.lst ds) := rfl
@[simp] theorem gList2_tup : gList2 (.tup ds) = some (.lst ds) := rfl
@[simp] theorem gList2_sc : gList2 (.sc ds) = some (.lst ds) := rfl
@[simp] theorem gList2_dct : gList2 (.dct kds) = some (.lst (kds.map fun kd => dK kd.1)) := rfl
@[simp] theorem modD_ap {x : List (Key × D) → Option (List (Key × D))} : modD i x S = match S.r[i]? with
  | some (.own (.dct ds)) => (x ds).bind fun es => some ⟨S.r.set i (.own (.dct es)), S.m⟩
  | some (.val (.ref k)) => match S.m[k]? with
    | some (.dct ds) => (x ds).bind fun es => some ⟨S.r, S.m.set k (.dct es)⟩
    | _ => none
  | _ => none := rfl
@[simp] theorem gSubK_ap : gSubK i f d S = if held i S then (f S).bind fun p => modD i (putAt d p.1) p.2 else none := rfl
@[simp] theorem gAlt_ap : gAlt g g' d S = (g d S).or (g' d S) := rfl
@[simp] theorem putAt_str {x : Str} : putAt d (.str x) kds = if kds.length < LIM then some (ptK kds (.inr x) d) else none := rfl
@[simp] theorem putAt_int {x : Int} : putAt d (.int x) kds = if kds.length < LIM then some (ptK kds (.inl x) d) else none := rfl
@[simp] theorem cDK_ap : cDK S = some (.dct [], S) := rfl
@[simp] theorem eIdxE_ap : eIdxE fo fe S = (fo S).bind fun p => match p.1 with
  | .lst ds => (fe p.2).bind fun q => (gIdx (.lst ds) (vw q.2 q.1)).bind fun z => some (z, q.2)
  | _ => none := rfl
@[simp] theorem lkK_nil {k : Key} : lkK [] k = none := rfl
@[simp] theorem lkK_cons {j k : Key} {r : List (Key × D)} : lkK ((j, d) :: r) k = if j = k then some d else lkK r k := rfl
end
end M

/-! M14: texts; a module's constants -/
namespace M
open PySem PySem.Spec L2 PyProof.Rows
theorem me_globS {X : Cx} {pos : Pos} {x z : Str} (h : ∃ t, X.mg x = some (.str z t)) (hg : Gl X x := by rfl) (hdb : (x == ("__debug__" : Str)) = false := by decide) : ME X (.Name x pos) (eC (.str z)) := by
  obtain ⟨t, h⟩ := h
  exact me_glob (v := .str z) hg h ⟨t, rfl⟩ (fun _ _ => .str z) hdb
theorem me_globI {X : Cx} {pos : Pos} {x : Str} {n : Int} (h : ∃ t, X.mg x = some (.int n t)) (hg : Gl X x := by rfl) (hdb : (x == ("__debug__" : Str)) = false := by decide) : ME X (.Name x pos) (eC (.int n)) := by
  obtain ⟨t, h⟩ := h
  exact me_glob (v := .int n) hg h ⟨t, rfl⟩ (fun _ _ => .int n) hdb
/-- a tuple of texts that the module holds -/
def strsB : List Value → List Str → Bool
  | [], [] => true
  | .str y _ :: us, z :: zs => decide (y = z) && strsB us zs
  | _, _ => false
theorem strsB_ok : ∀ {us : List Value} {zs : List Str}, strsB us zs = true → Vals (zs.map V.str) us
  | [], [], _ => .nil
  | [], _ :: _, h => by simp [strsB] at h
  | u :: us, zs, h => by
    cases u <;> cases zs <;> simp [strsB] at h
    obtain ⟨rfl, h⟩ := h
    exact .cons ⟨_, rfl⟩ (strsB_ok h)
theorem rvs_strs {K : PySem.W.Frag} {F : Hp} {io : List Addr} : ∀ zs : List Str, RVs K F io (zs.map V.str) (zs.map D.str)
  | [] => .nil
  | z :: zs => .cons (.str z) (rvs_strs zs)
def KStrs (K : PySem.W.Frag) (u : Value) (zs : List Str) : Prop := ∃ a, u = .ref a ∧ ∃ (o : Obj) (its : Array Value) (n : Nat), K.lookup a = some o ∧ o.cls = .type "tuple" ∧ o.data = .seq its n ∧ its.size ≤ sizeLine ∧ strsB its.toList zs = true
theorem me_globT {X : Cx} {pos : Pos} {x : Str} {zs : List Str} (h : ∃ u, X.mg x = some u ∧ KStrs X.K u zs) (hg : Gl X x := by rfl) (hdb : (x == ("__debug__" : Str)) = false := by decide) : ME X (.Name x pos) (eC (.tup (zs.map D.str))) := by
  obtain ⟨u, h, a, rfl, o, its, n, h1, h2, h3, h4, h5⟩ := h
  exact me_glob (v := .ref a) hg h rfl (fun _ _ => .tup (.inr ⟨o, its, n, h1, h2, h3, h4, strsB_ok h5⟩) (rvs_strs zs)) hdb
/-! in -/
def gInS (neg : Bool) (d e : D) : Option D := match d, e with
  | .str x, .str z => match x.cps.toList with
    | [c] => some (.bl (xor neg (decide (c ∈ z.cps.toList))))
    | _ => none
  | _, _ => none
theorem one_str {x : Str} {c : Nat} (h : x.cps.toList = [c]) : x = ⟨#[c]⟩ := Str.ext' (Array.toList_inj.mp h)
theorem oInS {X : Cx} : OpM X (compareOp .In) (gInS false) := by
  refine ⟨_, op_in_sign, fun x y d e z hz W S s Q R rx ry k => ?_⟩
  unfold gInS at hz
  split at hz
  · split at hz
    · rename_i c h
      cases hz
      cases rhS rx; cases rhS ry
      refine ⟨c, _, by rw [one_str h], rfl, ?_⟩
      have kk := k _ W R .refl (.bl _)
      simpa only [Bool.false_xor] using kk
    · cases hz
  · cases hz
theorem oNotInS {X : Cx} : OpM X (compareOp .NotIn) (gInS true) := by
  refine ⟨_, op_notIn_sign, fun x y d e z hz W S s Q R rx ry k => ?_⟩
  unfold gInS at hz
  split at hz
  · split at hz
    · rename_i c h
      cases hz
      cases rhS rx; cases rhS ry
      refine ⟨c, _, by rw [one_str h], rfl, ?_⟩
      have kk := k _ W R .refl (.bl _)
      simpa only [Bool.true_xor] using kk
    · cases hz
  · cases hz
def gIn3 (neg : Bool) (d e : D) : Option D := (gIn neg d e).or (gInS neg d e)
theorem oIn3 {X : Cx} (hu : X.A.units + 65 < cLine) : OpM X (compareOp .In) (gIn3 false) := (oIn hu).or oInS
theorem oNotIn3 {X : Cx} (hu : X.A.units + 65 < cLine) : OpM X (compareOp .NotIn) (gIn3 true) := (oNotIn hu).or oNotInS
/-! a text again and again -/
def gMulS (d e : D) : Option D := match d, e with
  | .str x, .int n => if x.length ≤ 16 ∧ n ≤ 1048576 ∧ -1048576 ≤ n then some (.str (Txt.mul x n)) else none
  | _, _ => none
theorem op_mul_str {X : Cx} : OpR X (binaryOp .Mult) (fun x y H Q => ∃ z n, x = .str z ∧ y = .int n ∧ z.length ≤ 16 ∧ n ≤ 1048576 ∧ -1048576 ≤ n ∧ Q (.str (Txt.mul z n)) H) := by
  intro pins s σ H x y v u Q I rx ry h
  obtain ⟨z, n, rfl, rfl, h1, h2, h3, q⟩ := h
  obtain ⟨t, rfl⟩ := rx
  obtain ⟨t', rfl⟩ := ry
  exact SB.mul (mulOk_of 16 1048576 h1 h2 (by omega) (by decide) (by decide)) fun t' tk => ⟨.str (Txt.mul z n), H, I.tok _, ⟨_, rfl⟩, q⟩
theorem oMulS {X : Cx} : OpM X (binaryOp .Mult) gMulS := by
  refine ⟨_, op_mul_str, fun x y d e z hz W S s Q R rx ry k => ?_⟩
  unfold gMulS at hz
  split at hz
  · split at hz
    · rename_i c
      cases hz
      cases rhS rx; cases rhI ry
      exact ⟨_, _, rfl, rfl, c.1, c.2.1, c.2.2, k _ W R .refl (.str _)⟩
    · cases hz
  · cases hz
def gMul3 (d e : D) : Option D := (gMul d e).or (gMulS d e)
theorem oMul3 {X : Cx} : OpM X (binaryOp .Mult) gMul3 := oMul.or oMulS
/-! the signs of a text, one by one -/
def iStrM (f : EF) : AF := fun S => (f S).bind fun p => match p.1 with
  | .str z => some (z.cps.toList.map (fun c => D.str ⟨#[c]⟩), p.2)
  | _ => none
theorem mi_str {X : Cx} {tg e : Expr} {fe : EF} (he : ME X e fe) : MI X tg e (iStrM fe) := by
  obtain ⟨t, p, q⟩ := he
  refine ⟨_, pi_str p, fun S ds S' h W s Rr R k => ?_⟩
  obtain ⟨⟨d1, S1⟩, e1, h⟩ := bind_some h
  simp only at h
  split at h
  · rename_i z
    cases h
    refine q S _ _ e1 W s _ R fun v W1 R1 f1 r1 => ?_
    cases r1.str_inv
    refine ⟨z, rfl, k _ W1 R1 f1 ⟨fun W2 S s R hF hi i d e => ?_, fun W2 S s R hF hi => ?_⟩⟩
    · rw [List.getElem?_map] at e
      obtain ⟨c, ec, e⟩ := Option.map_eq_some_iff.mp e
      cases e
      have hl := (List.getElem?_eq_some_iff.mp ec).1
      rw [Array.length_toList] at hl
      refine ⟨hl, fun x H' y => ⟨W2, y.1.symm, R, .refl, ?_⟩⟩
      obtain ⟨_, c', ec', rfl⟩ := y
      rw [Array.getElem?_toList] at ec
      rw [ec] at ec'
      cases ec'
      exact .str _
    · show z.cps.size ≤ _
      simp
  · cases h
/-! join -/
def strsD : List D → Option (List Str)
  | [] => some []
  | .str z :: ds => (strsD ds).map (z :: ·)
  | _ :: _ => none
theorem strsD_rv {K : PySem.W.Frag} {F : Hp} {io : List Addr} : ∀ {vs : List V} {ds : List D} {zs : List Str}, RVs K F io vs ds → strsD ds = some zs → vs = zs.map V.str
  | _, _, _, .nil, h => by cases h; rfl
  | _, _, _, @RVs.cons _ _ _ v vs d ds r t, h => by
    cases d <;> simp [strsD] at h
    obtain ⟨ys, h, rfl⟩ := h
    cases r.str_inv
    rw [strsD_rv t h]; rfl
def joinOk (a : Str) (ys : List Str) : Prop := (ys.map (·.length)).sum + ys.length * a.length ≤ 16777216
open Classical in
noncomputable def eJoin (fo fe : EF) : EF := fun S => (fo S).bind fun p => match p.1 with
  | .str a => (fe p.2).bind fun q => match vw q.2 q.1 with
    | .lst ds => (strsD ds).bind fun ys => if joinOk a ys then some (.str (Txt.join a ys), q.2) else none
    | _ => none
  | _ => none
theorem me_join {X : Cx} {o e : Expr} {fo fe : EF} {apos pos : Pos} (ho : ME X o fo) (he : ME X e fe) (hs : starEach [e] X.env = [(false, eval e X.env)] := by rfl) (hbase : attributeBase o "join" X.env (eval o X.env) = eval o X.env := by rfl) (hline : (apos.endLine == pos.line) = true := by rfl) :
    ME X (.Call (.Attribute o "join" apos) [e] [] pos) (eJoin fo fe) := by
  obtain ⟨t, p, q⟩ := ho
  obtain ⟨t2, p2, q2⟩ := he
  refine ⟨_, pe_join p p2 hs hbase hline, fun S d S' h W s Q R k => ?_⟩
  obtain ⟨⟨d1, S1⟩, e1, h⟩ := bind_some h
  simp only at h
  split at h
  · rename_i a
    obtain ⟨⟨d2, S2⟩, e2, h⟩ := bind_some h
    refine q S _ _ e1 W s _ R fun v W1 R1 f1 r1 => ?_
    cases r1.str_inv
    refine ⟨⟨a, rfl⟩, ?_⟩
    refine q2 S1 _ _ e2 W1 s _ R1 fun y W2 R2 f2 r2 => ?_
    have r3 := R2.vw r2
    simp only at h
    generalize vw S2 d2 = w at h r3
    split at h
    · rename_i ds
      obtain ⟨ys, e3, h⟩ := bind_some h
      split at h
      · rename_i c
        cases h
        obtain ⟨p', vs, rfl, h1, h2⟩ := r3
        cases strsD_rv h2 e3
        exact ⟨a, p', ys, rfl, rfl, .inl (.of h1), c, k _ W2 R2 (f1.trans f2) (.str _)⟩
      · cases h
    · cases h
  · cases h
/-! isinstance of what may be a cell -/
theorem tyh {K : PySem.W.Frag} {W : Wd} {S : Ms} {s : L2.St} (R : Rel K W S s) {v : V} {d : D} {n : String} (h : RH K W v d) (e : tyName d = some n) : TyX K W.H v (.type n) := by
  cases d with
  | lst ds => cases e; obtain ⟨a, vs, rfl, h1, h2⟩ := h; exact .base (.lst h1)
  | dct ds => cases e; obtain ⟨a, vs, rfl, h1, h2⟩ := h; exact .base (.dK h1)
  | non => exact tyx R (show RV _ _ _ _ _ from h) e
  | bl b => exact tyx R (show RV _ _ _ _ _ from h) e
  | int b => exact tyx R (show RV _ _ _ _ _ from h) e
  | str b => exact tyx R (show RV _ _ _ _ _ from h) e
  | tup ds => exact tyx R (show RV _ _ _ _ _ from h) e
  | sc ds => cases e
  | ref k => cases e
def eIsiC (T : String) (f : EF) : EF := fun S => (f S).bind fun p => (gIsi T (vw p.2 p.1)).bind fun z => some (z, p.2)
theorem me_isiC {X : Cx} {pos : Pos} {e : Expr} {y : Str} {T : String} {f : EF} {p yp : Pos} (hg : Gl X "isinstance") (hm : X.mg "isinstance" = none) (hgy : Gl X y) (hmy : X.mg y = none) (hv : bootBuiltins y = some (.type T)) (ha : ME X e f)
    (hb : bootBuiltins "isinstance" = some (.builtin "isinstance") := by decide +kernel) (hny : y ≠ "__name__" := by decide) (hdy : (y == ("__debug__" : Str)) = false := by decide) (hn : ("isinstance" : Str) ≠ "__name__" := by decide)
    (hs : starEach [e, .Name y yp] X.env = (false, eval e X.env) :: starEach [.Name y yp] X.env := by rfl) (hpl : (backTo pos (starEach [.Name y yp] X.env)).any (·.1) = false := by rfl)
    (hs2 : starEach [.Name y yp] X.env = (false, eval (.Name y yp) X.env) :: starEach [] X.env := by rfl) : ME X (.Call (.Name "isinstance" p) [e, .Name y yp] [] pos) (eIsiC T f) := by
  obtain ⟨t, p, q⟩ := ha
  refine ⟨_, pe_callB call_isi hg hm hb (pa_cons p (pa_cons (pe_bltn (v := .ty T) hgy hmy hv rfl hny hdy) pa_nil hs2) hs) hn (by decide) hs hpl, fun S d S' hz W s Q R k => ?_⟩
  obtain ⟨⟨d1, S1⟩, e1, hz⟩ := bind_some hz
  obtain ⟨z, e2, hz⟩ := bind_some hz
  cases hz
  refine q S _ _ e1 W s _ R fun v W1 R1 f1 r1 => ?_
  obtain ⟨n, e3, e2⟩ := bind_some e2
  obtain ⟨b, e4, e2⟩ := bind_some e2
  cases e2
  exact ⟨v, .ty T, .type n, .type T, b, rfl, .ty T, tyh R1 (R1.vw r1) e3, kit_ty e4, k _ W1 R1 f1 (.bl _)⟩
section
variable {S : Ms} {f fo fe : EF} {x z : Str} {c : Nat} {d e : D} {ds : List D} {b : Bool} {T : String} {i n : Int}
@[simp] theorem eIsiC_ap : eIsiC T f S = (f S).bind fun p => (gIsi T (vw p.2 p.1)).bind fun z => some (z, p.2) := rfl
open Classical in
@[simp] theorem eJoin_ap : eJoin fo fe S = (fo S).bind fun p => match p.1 with
  | .str a => (fe p.2).bind fun q => match vw q.2 q.1 with
    | .lst ds => (strsD ds).bind fun ys => if joinOk a ys then some (.str (Txt.join a ys), q.2) else none
    | _ => none
  | _ => none := rfl
@[simp] theorem iStrM_ap : iStrM f S = (f S).bind fun p => match p.1 with
  | .str z => some (z.cps.toList.map (fun c => D.str ⟨#[c]⟩), p.2)
  | _ => none := rfl
theorem gIx_str : gIx (.str z) (.int i) = if z.length ≤ 1000000 then (atI z.cps.toList i).bind fun c => some (.str ⟨#[c]⟩) else none := rfl
theorem gLen_str : gLen (.str z) = if z.length ≤ 1000000 then some (.int z.length) else none := rfl
theorem gIn3_sign {neg : Bool} : gIn3 neg (.str ⟨#[c]⟩) (.str z) = some (.bl (xor neg (decide (c ∈ z.cps.toList)))) := rfl
theorem gIn3_tup {neg : Bool} : gIn3 neg d (.tup ds) = gIn neg d (.tup ds) := by
  unfold gIn3 gInS; cases d <;> simp
theorem gIn3_lst {neg : Bool} : gIn3 neg d (.lst ds) = gIn neg d (.lst ds) := by
  unfold gIn3 gInS; cases d <;> simp
@[simp] theorem gMul3_int : gMul3 (.int i) (.int n) = gMul (.int i) (.int n) := by
  unfold gMul3 gMulS; simp
theorem gMul3_str : gMul3 (.str z) (.int n) = if z.length ≤ 16 ∧ n ≤ 1048576 ∧ -1048576 ≤ n then some (.str (Txt.mul z n)) else none := rfl
end
end M

/-! M15: int of a text -/
namespace M
open PySem PySem.Spec L2 PyProof.Rows
def gIntS : D → Option D
  | .str z => (intText? z).bind fun n => if z.length ≤ 640 then some (.int n) else none
  | _ => none
theorem cIntS {X : Cx} : CallM X (.type "int") gIntS := by
  refine ⟨_, call_int_str, fun x d z hz W S s Q R rx k => ?_⟩
  unfold gIntS at hz
  split at hz
  · obtain ⟨n, e, hz⟩ := bind_some hz
    split at hz
    · rename_i c
      cases hz
      cases rhS rx
      exact ⟨_, _, rfl, e, c, k _ W R .refl (.int _)⟩
    · cases hz
  · cases hz
def gInt3 : D → Option D := orC gInt gIntS
theorem cInt3 {X : Cx} : CallM X (.type "int") gInt3 := cInt.or cIntS
@[simp] theorem gInt3_int {i : Int} : gInt3 (.int i) = some (.int i) := rfl
@[simp] theorem gInt3_bl {b : Bool} : gInt3 (.bl b) = some (.int (if b then 1 else 0)) := rfl
theorem gInt3_str {z : Str} : gInt3 (.str z) = (intText? z).bind fun n => if z.length ≤ 640 then some (.int n) else none := rfl
end M

/-! M16: a list again and again -/
namespace M
open PySem PySem.Spec L2 PyProof.Rows
def gMulL (d e : D) : Option D := match d, e with
  | .lst xs, .int n => if xs.length * n.toNat ≤ LIM ∧ n ≤ 1048576 ∧ -1048576 ≤ n then some (.lst (List.replicate n.toNat xs).flatten) else none
  | _, _ => none
theorem RVs.rep {K : PySem.W.Frag} {F : Hp} {io : List Addr} {vs : List V} {ds : List D} (h : RVs K F io vs ds) : ∀ n : Nat, RVs K F io (List.replicate n vs).flatten (List.replicate n ds).flatten
  | 0 => .nil
  | n + 1 => by
    rw [List.replicate_succ, List.flatten_cons, List.replicate_succ, List.flatten_cons]
    exact h.append (RVs.rep h n)
theorem oMulL {X : Cx} : OpM X (binaryOp .Mult) gMulL := by
  refine ⟨_, op_rep, fun x y d e z hz W S s Q R rx ry k => ?_⟩
  unfold gMulL at hz
  split at hz
  · rename_i xs n
    split at hz
    · rename_i c
      cases hz
      obtain ⟨l, vs, rfl, h1, h2⟩ := rx
      cases rhI ry
      refine ⟨l, n, vs, rfl, rfl, h1, by omega, by omega, by rw [h2.length]; exact Nat.le_trans c.1 lim_line, fun p hp => ?_⟩
      obtain ⟨R1, f1⟩ := R.al (o := .lst (List.replicate n.toNat vs).flatten) hp
      exact k _ _ R1 f1 (.lst upd_same ((RVs.rep h2 n.toNat).up f1))
    · cases hz
  · cases hz
def gMul4 (d e : D) : Option D := (gMul3 d e).or (gMulL d e)
theorem oMul4 {X : Cx} : OpM X (binaryOp .Mult) gMul4 := oMul3.or oMulL
/-! two lists joined to a new one -/
def cCat (fa fb : EF) : CF := fun S => (fa S).bind fun p => (fb p.2).bind fun q => match vw q.2 p.1, vw q.2 q.1 with
  | .lst xs, .lst ys => if xs.length + ys.length ≤ LIM then some (.lst (xs ++ ys), q.2) else none
  | _, _ => none
theorem mf_cat {X : Cx} {a b : Expr} {fa fb : EF} {pos : Pos} (ha : ME X a fa) (hb : ME X b fb) : MF X (.BinOp a .Add b pos) (cCat fa fb) := by
  obtain ⟨ta, p1, q1⟩ := ha
  obtain ⟨tb, p2, q2⟩ := hb
  refine ⟨_, pe_op op_cat p1 p2, fun S c S' h W s Q R k => ?_⟩
  obtain ⟨⟨d1, S1⟩, e1, h⟩ := bind_some h
  obtain ⟨⟨d2, S2⟩, e2, h⟩ := bind_some h
  refine q1 S _ _ e1 W s _ R fun x W1 R1 f1 r1 => ?_
  refine q2 S1 _ _ e2 W1 s _ R1 fun y W2 R2 f2 r2 => ?_
  have rx := R2.vw (r1.up f2)
  have ry := R2.vw r2
  simp only at h
  generalize vw S2 d1 = w1 at h rx
  generalize vw S2 d2 = w2 at h ry
  split at h
  · split at h
    · rename_i cc
      cases h
      obtain ⟨l, vs, rfl, h1, h2⟩ := rx
      obtain ⟨m, zs, rfl, h3, h4⟩ := ry
      refine ⟨l, m, vs, zs, rfl, rfl, h1, h3, by rw [h2.length, h4.length]; exact Nat.le_trans cc lim_line, fun p hp => ?_⟩
      obtain ⟨R3, f3, n⟩ := R2.newLst hp (h2.append h4)
      exact k _ _ R3 ((f1.trans f2).trans f3) ((f1.trans f2).hp _ hp) n
    · cases h
  · cases h
def cCatL (i : Nat) (fb : EF) : CF := fun S => if held i S then (fb S).bind fun q => (sees i q.2).bind fun d => match d, vw q.2 q.1 with
  | .lst xs, .lst ys => if xs.length + ys.length ≤ LIM then some (.lst (xs ++ ys), q.2) else none
  | _, _ => none
  else none
theorem mf_catL {X : Cx} {b : Expr} {fb : EF} {pos xp : Pos} {x : Str} (i : Nat) (hb : ME X b fb) (hN : X.N[i]? = some x := by rfl) (hv : Vis X.env.scope x := by first | exact Or.inl rfl | exact Or.inr (Or.inl rfl) | exact Or.inr (Or.inr rfl))
    (hd : (x == ("__debug__" : Str)) = false := by decide) (hcd : (x == ("__classdict__" : Str)) = false := by decide) : MF X (.BinOp (.Name x xp) .Add b pos) (cCatL i fb) := by
  obtain ⟨tb, p2, q2⟩ := hb
  refine ⟨_, pe_op op_cat (pe_var hN hv hd hcd) p2, fun S c S' h W s Q R k => ?_⟩
  unfold cCatL at h
  split at h
  · rename_i hh
    obtain ⟨⟨d2, S2⟩, e2, h⟩ := bind_some h
    obtain ⟨d1, e1, h⟩ := bind_some h
    obtain ⟨x0, ex⟩ := R.held hh
    refine ⟨x0, ex, ?_⟩
    refine q2 S _ _ e2 W s _ R fun y W2 R2 f2 r2 => ?_
    obtain ⟨x', ex', rx⟩ := R2.sees e1
    rw [ex] at ex'
    cases ex'
    have ry := R2.vw r2
    simp only at h
    generalize vw S2 d2 = w2 at h ry
    split at h
    · split at h
      · rename_i cc
        cases h
        obtain ⟨l, vs, rfl, h1, h2⟩ := rx
        obtain ⟨m, zs, rfl, h3, h4⟩ := ry
        refine ⟨l, m, vs, zs, rfl, rfl, h1, h3, by rw [h2.length, h4.length]; exact Nat.le_trans cc lim_line, fun p hp => ?_⟩
        obtain ⟨R3, f3, n⟩ := R2.newLst hp (h2.append h4)
        exact k _ _ R3 (f2.trans f3) (f2.hp _ hp) n
      · cases h
    · cases h
  · cases h
@[simp] theorem cCat_ap {fa fb : EF} {S : Ms} : cCat fa fb S = (fa S).bind fun p => (fb p.2).bind fun q => match vw q.2 p.1, vw q.2 q.1 with
  | .lst xs, .lst ys => if xs.length + ys.length ≤ LIM then some (.lst (xs ++ ys), q.2) else none
  | _, _ => none := rfl
@[simp] theorem cCatL_ap {i : Nat} {fb : EF} {S : Ms} : cCatL i fb S = if held i S then (fb S).bind fun q => (sees i q.2).bind fun d => match d, vw q.2 q.1 with
  | .lst xs, .lst ys => if xs.length + ys.length ≤ LIM then some (.lst (xs ++ ys), q.2) else none
  | _, _ => none
  else none := rfl
@[simp] theorem gMul4_int {i n : Int} : gMul4 (.int i) (.int n) = gMul (.int i) (.int n) := by
  unfold gMul4 gMulL; simp
theorem gMul4_str {z : Str} {n : Int} : gMul4 (.str z) (.int n) = gMul3 (.str z) (.int n) := by
  unfold gMul4 gMulL; simp
theorem gMul4_lst {xs : List D} {n : Int} : gMul4 (.lst xs) (.int n) = if xs.length * n.toNat ≤ LIM ∧ n ≤ 1048576 ∧ -1048576 ≤ n then some (.lst (List.replicate n.toNat xs).flatten) else none := rfl
end M

/-! the machine functions of k03, printed by gen.py -/
namespace Lk03
open PySem PySem.Spec L2 M
noncomputable section
def l_run_end_1 : SF := (sAug 3 (fun i j => i + j) (eC (.int 1)))
def b_run_end : SF := (sSeq (sAsg (eVar 1) (gNm 3)) (sSeq (sWhile (bAnd (bOf (eOp gLt (eVar 3) (eCallV gLen 0))) (bOf (eOpR (gIn3 false) (eOpL gIx 0 (eVar 3)) 2))) l_run_end_1) (sRet (eVar 3))))
def f_run_end : FF := fnM 4 b_run_end
def t_word_end_1 : SF := (sSeq (sIf (bOf (eOp (gIn3 false) (eOpL gIx 0 (eVar 1)) (eC (.str "<>=+-()[],:")))) (sRet (eOp gAdd (eVar 1) (eC (.int 1)))) sNil) (sRet (eVar 1)))
@[simp] theorem t_word_end_1_ap {S : Ms} : t_word_end_1 S = (sSeq (sIf (bOf (eOp (gIn3 false) (eOpL gIx 0 (eVar 1)) (eC (.str "<>=+-()[],:")))) (sRet (eOp gAdd (eVar 1) (eC (.int 1)))) sNil) (sRet (eVar 1))) S := rfl
def t_word_end_2 : SF := (sSeq (sIf (bOf (eOp (gIn3 false) (eSl3 (eVar 0) (oSome (eVar 1)) (oSome (eOp gAdd (eVar 1) (eC (.int 2))))) (eC (.tup (List.map M.D.str ["<=", ">=", "==", "!="]))))) (sRet (eOp gAdd (eVar 1) (eC (.int 2)))) sNil) t_word_end_1)
@[simp] theorem t_word_end_2_ap {S : Ms} : t_word_end_2 S = (sSeq (sIf (bOf (eOp (gIn3 false) (eSl3 (eVar 0) (oSome (eVar 1)) (oSome (eOp gAdd (eVar 1) (eC (.int 2))))) (eC (.tup (List.map M.D.str ["<=", ">=", "==", "!="]))))) (sRet (eOp gAdd (eVar 1) (eC (.int 2)))) sNil) t_word_end_1) S := rfl
def t_word_end_3 : SF := (sSeq (sIf (bOf (eOp (gIn3 false) (eOpL gIx 0 (eVar 1)) (eC (.str "0123456789")))) (sRet (eFn 3 f_run_end (aCons (eVar 0) (aCons (eVar 1) (aCons (eC (.str "0123456789")) aNil))))) sNil) t_word_end_2)
@[simp] theorem t_word_end_3_ap {S : Ms} : t_word_end_3 S = (sSeq (sIf (bOf (eOp (gIn3 false) (eOpL gIx 0 (eVar 1)) (eC (.str "0123456789")))) (sRet (eFn 3 f_run_end (aCons (eVar 0) (aCons (eVar 1) (aCons (eC (.str "0123456789")) aNil))))) sNil) t_word_end_2) S := rfl
def b_word_end : SF := (sSeq (sIf (bOf (eOp (gIn3 false) (eOpL gIx 0 (eVar 1)) (eC (.str "abcdefghijklmnopqrstuvwxyz")))) (sRet (eFn 3 f_run_end (aCons (eVar 0) (aCons (eVar 1) (aCons (eC (.str "abcdefghijklmnopqrstuvwxyz")) aNil))))) sNil) t_word_end_3)
def f_word_end : FF := fnM 2 b_word_end
def t_split_row_1 : SF := (sSeq (sExpr (eApp 1 (eSl3 (eVar 0) (oSome (eVar 2)) (oSome (eVar 3))))) (sAsg (eFn 3 f_run_end (aCons (eVar 0) (aCons (eVar 3) (aCons (eC (.str " ")) aNil)))) (gNm 2)))
@[simp] theorem t_split_row_1_ap {S : Ms} : t_split_row_1 S = (sSeq (sExpr (eApp 1 (eSl3 (eVar 0) (oSome (eVar 2)) (oSome (eVar 3))))) (sAsg (eFn 3 f_run_end (aCons (eVar 0) (aCons (eVar 3) (aCons (eC (.str " ")) aNil)))) (gNm 2))) S := rfl
def t_split_row_2 : SF := (sSeq (sIf (bOf (eOp gEq (eVar 3) (eVar 2))) (sRet (eC .non)) sNil) t_split_row_1)
@[simp] theorem t_split_row_2_ap {S : Ms} : t_split_row_2 S = (sSeq (sIf (bOf (eOp gEq (eVar 3) (eVar 2))) (sRet (eC .non)) sNil) t_split_row_1) S := rfl
def l_split_row_1 : SF := (sSeq (sAsg (eFn 2 f_word_end (aCons (eVar 0) (aCons (eVar 2) aNil))) (gNm 3)) t_split_row_2)
def t_split_row_3 : SF := (sSeq (sWhile (bOf (eOp gLt (eVar 2) (eCallV gLen 0))) l_split_row_1) (sRet (eVar 1)))
@[simp] theorem t_split_row_3_ap {S : Ms} : t_split_row_3 S = (sSeq (sWhile (bOf (eOp gLt (eVar 2) (eCallV gLen 0))) l_split_row_1) (sRet (eVar 1))) S := rfl
def t_split_row_4 : SF := (sSeq (sAsg (eFn 3 f_run_end (aCons (eVar 0) (aCons (eC (.int 0)) (aCons (eC (.str " ")) aNil)))) (gNm 2)) t_split_row_3)
@[simp] theorem t_split_row_4_ap {S : Ms} : t_split_row_4 S = (sSeq (sAsg (eFn 3 f_run_end (aCons (eVar 0) (aCons (eC (.int 0)) (aCons (eC (.str " ")) aNil)))) (gNm 2)) t_split_row_3) S := rfl
def b_split_row : SF := (sSeq (sOwn 1 (cLst aNil)) t_split_row_4)
def f_split_row : FF := fnM 4 b_split_row
def b_is_name : SF := (sSeq (sIf (bOr (bOf (eOp (gIn3 false) (eVar 0) (eC (.tup (List.map M.D.str ["input", "from", "to", "list", "def", "let", "if", "else", "end", "while", "at", "most", "check", "refuse", "answer", "return", "skip", "and", "or", "not", "row", "yes", "no", "turn", "fault", "when", "then"]))))) (bNot (bOf (eChain gLe gLe (eC (.int 1)) (eCallV gLen 0) (eC (.int 12)))))) (sRet (eC (.bl false))) sNil) (sRet (eOp gEq (eFn 3 f_run_end (aCons (eVar 0) (aCons (eC (.int 0)) (aCons (eC (.str "abcdefghijklmnopqrstuvwxyz")) aNil)))) (eCallV gLen 0))))
def f_is_name : FF := fnM 1 b_is_name
def b_is_number : SF := (sSeq (sIf (bOr (bNot (bOf (eChain gLe gLe (eC (.int 1)) (eCallV gLen 0) (eC (.int 10))))) (bAnd (bOf (eOp gEq (eOpL gIx 0 (eC (.int 0))) (eC (.str "0")))) (bOf (eOp gGt (eCallV gLen 0) (eC (.int 1)))))) (sRet (eC (.bl false))) sNil) (sRet (eOp gEq (eFn 3 f_run_end (aCons (eVar 0) (aCons (eC (.int 0)) (aCons (eC (.str "0123456789")) aNil)))) (eCallV gLen 0))))
def f_is_number : FF := fnM 1 b_is_number
def b_word_at : SF := (sSeq (sIf (bOf (eOp gLt (eVar 1) (eCallV gLen 0))) (sRet (eOpL gIx 0 (eVar 1))) sNil) (sRet (eC (.str ""))))
def f_word_at : FF := fnM 2 b_word_at
def b_signed_at : SF := (sSeq (sIf (bTru (eFn 1 f_is_number (aCons (eFn 2 f_word_at (aCons (eVar 0) (aCons (eVar 1) aNil))) aNil))) (sRet (eTup (aCons (eCall gInt3 (eOpL gIx 0 (eVar 1))) (aCons (eOp gAdd (eVar 1) (eC (.int 1))) aNil)))) sNil) (sSeq (sIf (bAnd (bOf (eOp gEq (eFn 2 f_word_at (aCons (eVar 0) (aCons (eVar 1) aNil))) (eC (.str "-")))) (bTru (eFn 1 f_is_number (aCons (eFn 2 f_word_at (aCons (eVar 0) (aCons (eOp gAdd (eVar 1) (eC (.int 1))) aNil))) aNil)))) (sRet (eTup (aCons (eUn gNeg (eCall gInt3 (eOpL gIx 0 (eOp gAdd (eVar 1) (eC (.int 1)))))) (aCons (eOp gAdd (eVar 1) (eC (.int 2))) aNil)))) sNil) (sRet (eC .non))))
def f_signed_at : FF := fnM 2 b_signed_at
def t_plus_at_1 : SF := (sSeq (sIf (bOf (eOp gEq (eOpL gIx 0 (eVar 1)) (eC (.str "-")))) (sRet (eTup (aCons (eUn gNeg (eCall gInt3 (eOpL gIx 0 (eOp gAdd (eVar 1) (eC (.int 1)))))) (aCons (eOp gAdd (eVar 1) (eC (.int 2))) aNil)))) sNil) (sRet (eTup (aCons (eCall gInt3 (eOpL gIx 0 (eOp gAdd (eVar 1) (eC (.int 1))))) (aCons (eOp gAdd (eVar 1) (eC (.int 2))) aNil)))))
@[simp] theorem t_plus_at_1_ap {S : Ms} : t_plus_at_1 S = (sSeq (sIf (bOf (eOp gEq (eOpL gIx 0 (eVar 1)) (eC (.str "-")))) (sRet (eTup (aCons (eUn gNeg (eCall gInt3 (eOpL gIx 0 (eOp gAdd (eVar 1) (eC (.int 1)))))) (aCons (eOp gAdd (eVar 1) (eC (.int 2))) aNil)))) sNil) (sRet (eTup (aCons (eCall gInt3 (eOpL gIx 0 (eOp gAdd (eVar 1) (eC (.int 1))))) (aCons (eOp gAdd (eVar 1) (eC (.int 2))) aNil))))) S := rfl
def t_plus_at_2 : SF := (sSeq (sIf (bNot (bTru (eFn 1 f_is_number (aCons (eFn 2 f_word_at (aCons (eVar 0) (aCons (eOp gAdd (eVar 1) (eC (.int 1))) aNil))) aNil)))) (sRet (eC .non)) sNil) t_plus_at_1)
@[simp] theorem t_plus_at_2_ap {S : Ms} : t_plus_at_2 S = (sSeq (sIf (bNot (bTru (eFn 1 f_is_number (aCons (eFn 2 f_word_at (aCons (eVar 0) (aCons (eOp gAdd (eVar 1) (eC (.int 1))) aNil))) aNil)))) (sRet (eC .non)) sNil) t_plus_at_1) S := rfl
def b_plus_at : SF := (sSeq (sIf (bOf (eOp (gIn3 true) (eFn 2 f_word_at (aCons (eVar 0) (aCons (eVar 1) aNil))) (eTup (aCons (eC (.str "+")) (aCons (eC (.str "-")) aNil))))) (sRet (eTup (aCons (eC (.int 0)) (aCons (eVar 1) aNil)))) sNil) t_plus_at_2)
def f_plus_at : FF := fnM 2 b_plus_at
def t_plain_at_1 : SF := (sSeq (sIf (bOf (eOp gIsN (eVar 3) (eC .non))) (sRet (eC .non)) sNil) (sRet (eTup (aCons (eTup (aCons (eC (.str "var")) (aCons (eOpL gIx 0 (eVar 1)) (aCons (eOpL gIx 3 (eC (.int 0))) aNil)))) (aCons (eOpL gIx 3 (eC (.int 1))) aNil)))))
@[simp] theorem t_plain_at_1_ap {S : Ms} : t_plain_at_1 S = (sSeq (sIf (bOf (eOp gIsN (eVar 3) (eC .non))) (sRet (eC .non)) sNil) (sRet (eTup (aCons (eTup (aCons (eC (.str "var")) (aCons (eOpL gIx 0 (eVar 1)) (aCons (eOpL gIx 3 (eC (.int 0))) aNil)))) (aCons (eOpL gIx 3 (eC (.int 1))) aNil))))) S := rfl
def t_plain_at_2 : SF := (sSeq (sAsg (eFn 2 f_plus_at (aCons (eVar 0) (aCons (eOp gAdd (eVar 1) (eC (.int 1))) aNil))) (gNm 3)) t_plain_at_1)
@[simp] theorem t_plain_at_2_ap {S : Ms} : t_plain_at_2 S = (sSeq (sAsg (eFn 2 f_plus_at (aCons (eVar 0) (aCons (eOp gAdd (eVar 1) (eC (.int 1))) aNil))) (gNm 3)) t_plain_at_1) S := rfl
def t_plain_at_3 : SF := (sSeq (sIf (bNot (bTru (eFn 1 f_is_name (aCons (eFn 2 f_word_at (aCons (eVar 0) (aCons (eVar 1) aNil))) aNil)))) (sRet (eC .non)) sNil) t_plain_at_2)
@[simp] theorem t_plain_at_3_ap {S : Ms} : t_plain_at_3 S = (sSeq (sIf (bNot (bTru (eFn 1 f_is_name (aCons (eFn 2 f_word_at (aCons (eVar 0) (aCons (eVar 1) aNil))) aNil)))) (sRet (eC .non)) sNil) t_plain_at_2) S := rfl
def t_plain_at_4 : SF := (sSeq (sIf (bOf (eOp gNotN (eVar 2) (eC .non))) (sRet (eTup (aCons (eTup (aCons (eC (.str "num")) (aCons (eOpL gIx 2 (eC (.int 0))) aNil))) (aCons (eOpL gIx 2 (eC (.int 1))) aNil)))) sNil) t_plain_at_3)
@[simp] theorem t_plain_at_4_ap {S : Ms} : t_plain_at_4 S = (sSeq (sIf (bOf (eOp gNotN (eVar 2) (eC .non))) (sRet (eTup (aCons (eTup (aCons (eC (.str "num")) (aCons (eOpL gIx 2 (eC (.int 0))) aNil))) (aCons (eOpL gIx 2 (eC (.int 1))) aNil)))) sNil) t_plain_at_3) S := rfl
def b_plain_at : SF := (sSeq (sAsg (eFn 2 f_signed_at (aCons (eVar 0) (aCons (eVar 1) aNil))) (gNm 2)) t_plain_at_4)
def f_plain_at : FF := fnM 4 b_plain_at
def t_expression_at_1 : SF := (sSeq (sIf (bOf (eOp gIsN (eVar 3) (eC .non))) (sRet (eC .non)) sNil) (sRet (eTup (aCons (eTup (aCons (eC (.str "item")) (aCons (eOpL gIx 0 (eVar 1)) (aCons (eOpL gIx 2 (eC (.int 0))) (aCons (eOpL gIx 3 (eC (.int 0))) aNil))))) (aCons (eOpL gIx 3 (eC (.int 1))) aNil)))))
@[simp] theorem t_expression_at_1_ap {S : Ms} : t_expression_at_1 S = (sSeq (sIf (bOf (eOp gIsN (eVar 3) (eC .non))) (sRet (eC .non)) sNil) (sRet (eTup (aCons (eTup (aCons (eC (.str "item")) (aCons (eOpL gIx 0 (eVar 1)) (aCons (eOpL gIx 2 (eC (.int 0))) (aCons (eOpL gIx 3 (eC (.int 0))) aNil))))) (aCons (eOpL gIx 3 (eC (.int 1))) aNil))))) S := rfl
def t_expression_at_2 : SF := (sSeq (sAsg (eFn 2 f_plus_at (aCons (eVar 0) (aCons (eOp gAdd (eOpL gIx 2 (eC (.int 1))) (eC (.int 1))) aNil))) (gNm 3)) t_expression_at_1)
@[simp] theorem t_expression_at_2_ap {S : Ms} : t_expression_at_2 S = (sSeq (sAsg (eFn 2 f_plus_at (aCons (eVar 0) (aCons (eOp gAdd (eOpL gIx 2 (eC (.int 1))) (eC (.int 1))) aNil))) (gNm 3)) t_expression_at_1) S := rfl
def t_expression_at_3 : SF := (sSeq (sIf (bOr (bOf (eOp gIsN (eVar 2) (eC .non))) (bOf (eOp gNe (eFn 2 f_word_at (aCons (eVar 0) (aCons (eOpL gIx 2 (eC (.int 1))) aNil))) (eC (.str "]"))))) (sRet (eC .non)) sNil) t_expression_at_2)
@[simp] theorem t_expression_at_3_ap {S : Ms} : t_expression_at_3 S = (sSeq (sIf (bOr (bOf (eOp gIsN (eVar 2) (eC .non))) (bOf (eOp gNe (eFn 2 f_word_at (aCons (eVar 0) (aCons (eOpL gIx 2 (eC (.int 1))) aNil))) (eC (.str "]"))))) (sRet (eC .non)) sNil) t_expression_at_2) S := rfl
def t_expression_at_4 : SF := (sSeq (sAsg (eFn 2 f_plain_at (aCons (eVar 0) (aCons (eOp gAdd (eVar 1) (eC (.int 2))) aNil))) (gNm 2)) t_expression_at_3)
@[simp] theorem t_expression_at_4_ap {S : Ms} : t_expression_at_4 S = (sSeq (sAsg (eFn 2 f_plain_at (aCons (eVar 0) (aCons (eOp gAdd (eVar 1) (eC (.int 2))) aNil))) (gNm 2)) t_expression_at_3) S := rfl
def b_expression_at : SF := (sSeq (sIf (bOr (bNot (bTru (eFn 1 f_is_name (aCons (eFn 2 f_word_at (aCons (eVar 0) (aCons (eVar 1) aNil))) aNil)))) (bOf (eOp gNe (eFn 2 f_word_at (aCons (eVar 0) (aCons (eOp gAdd (eVar 1) (eC (.int 1))) aNil))) (eC (.str "["))))) (sRet (eFn 2 f_plain_at (aCons (eVar 0) (aCons (eVar 1) aNil)))) sNil) t_expression_at_4)
def f_expression_at : FF := fnM 4 b_expression_at
def t_comparison_at_1 : SF := (sSeq (sIf (bOf (eOp gIsN (eVar 3) (eC .non))) (sRet (eC .non)) sNil) (sRet (eTup (aCons (eTup (aCons (eC (.str "cmp")) (aCons (eOpL gIx 0 (eOpL gIx 2 (eC (.int 1)))) (aCons (eOpL gIx 2 (eC (.int 0))) (aCons (eOpL gIx 3 (eC (.int 0))) aNil))))) (aCons (eOpL gIx 3 (eC (.int 1))) aNil)))))
@[simp] theorem t_comparison_at_1_ap {S : Ms} : t_comparison_at_1 S = (sSeq (sIf (bOf (eOp gIsN (eVar 3) (eC .non))) (sRet (eC .non)) sNil) (sRet (eTup (aCons (eTup (aCons (eC (.str "cmp")) (aCons (eOpL gIx 0 (eOpL gIx 2 (eC (.int 1)))) (aCons (eOpL gIx 2 (eC (.int 0))) (aCons (eOpL gIx 3 (eC (.int 0))) aNil))))) (aCons (eOpL gIx 3 (eC (.int 1))) aNil))))) S := rfl
def t_comparison_at_2 : SF := (sSeq (sAsg (eFn 2 f_expression_at (aCons (eVar 0) (aCons (eOp gAdd (eOpL gIx 2 (eC (.int 1))) (eC (.int 1))) aNil))) (gNm 3)) t_comparison_at_1)
@[simp] theorem t_comparison_at_2_ap {S : Ms} : t_comparison_at_2 S = (sSeq (sAsg (eFn 2 f_expression_at (aCons (eVar 0) (aCons (eOp gAdd (eOpL gIx 2 (eC (.int 1))) (eC (.int 1))) aNil))) (gNm 3)) t_comparison_at_1) S := rfl
def t_comparison_at_3 : SF := (sSeq (sIf (bOr (bOf (eOp gIsN (eVar 2) (eC .non))) (bOf (eOp (gIn3 true) (eFn 2 f_word_at (aCons (eVar 0) (aCons (eOpL gIx 2 (eC (.int 1))) aNil))) (eC (.tup (List.map M.D.str ["<", "<=", ">", ">=", "==", "!="])))))) (sRet (eC .non)) sNil) t_comparison_at_2)
@[simp] theorem t_comparison_at_3_ap {S : Ms} : t_comparison_at_3 S = (sSeq (sIf (bOr (bOf (eOp gIsN (eVar 2) (eC .non))) (bOf (eOp (gIn3 true) (eFn 2 f_word_at (aCons (eVar 0) (aCons (eOpL gIx 2 (eC (.int 1))) aNil))) (eC (.tup (List.map M.D.str ["<", "<=", ">", ">=", "==", "!="])))))) (sRet (eC .non)) sNil) t_comparison_at_2) S := rfl
def b_comparison_at : SF := (sSeq (sAsg (eFn 2 f_expression_at (aCons (eVar 0) (aCons (eVar 1) aNil))) (gNm 2)) t_comparison_at_3)
def f_comparison_at : FF := fnM 4 b_comparison_at
def b_joined : SF := (sSeq (sIf (bOf (eOp gEq (eCallV gLen 1) (eC (.int 1)))) (sRet (eOpL gIx 1 (eC (.int 0)))) sNil) (sRet (eTup (aCons (eVar 0) (aCons (eCallV gTuple 1) aNil)))))
def f_joined : FF := fnM 2 b_joined
def t_part_at_1 (rec_part_at rec_and_at rec_or_at : FF) : SF := (sSeq (sIf (bOr (bOf (eOp gIsN (eVar 4) (eC .non))) (bOf (eOp gNe (eFn 2 f_word_at (aCons (eVar 0) (aCons (eOpL gIx 4 (eC (.int 1))) aNil))) (eC (.str ")"))))) (sRet (eC .non)) sNil) (sRet (eTup (aCons (eOpL gIx 4 (eC (.int 0))) (aCons (eOp gAdd (eOpL gIx 4 (eC (.int 1))) (eC (.int 1))) aNil)))))
@[simp] theorem t_part_at_1_ap {rec_part_at rec_and_at rec_or_at : FF} {S : Ms} : t_part_at_1 rec_part_at rec_and_at rec_or_at S = (sSeq (sIf (bOr (bOf (eOp gIsN (eVar 4) (eC .non))) (bOf (eOp gNe (eFn 2 f_word_at (aCons (eVar 0) (aCons (eOpL gIx 4 (eC (.int 1))) aNil))) (eC (.str ")"))))) (sRet (eC .non)) sNil) (sRet (eTup (aCons (eOpL gIx 4 (eC (.int 0))) (aCons (eOp gAdd (eOpL gIx 4 (eC (.int 1))) (eC (.int 1))) aNil))))) S := rfl
def t_part_at_2 (rec_part_at rec_and_at rec_or_at : FF) : SF := (sSeq (sAsg (eFn 3 rec_or_at (aCons (eVar 0) (aCons (eOp gAdd (eVar 1) (eC (.int 1))) (aCons (eOp gAdd (eVar 2) (eC (.int 1))) aNil)))) (gNm 4)) (t_part_at_1 rec_part_at rec_and_at rec_or_at))
@[simp] theorem t_part_at_2_ap {rec_part_at rec_and_at rec_or_at : FF} {S : Ms} : t_part_at_2 rec_part_at rec_and_at rec_or_at S = (sSeq (sAsg (eFn 3 rec_or_at (aCons (eVar 0) (aCons (eOp gAdd (eVar 1) (eC (.int 1))) (aCons (eOp gAdd (eVar 2) (eC (.int 1))) aNil)))) (gNm 4)) (t_part_at_1 rec_part_at rec_and_at rec_or_at)) S := rfl
def t_part_at_3 (rec_part_at rec_and_at rec_or_at : FF) : SF := (sSeq (sIf (bOf (eOp gEq (eVar 3) (eC (.str "not")))) (sSeq (sAsg (eFn 3 rec_part_at (aCons (eVar 0) (aCons (eOp gAdd (eVar 1) (eC (.int 1))) (aCons (eOp gAdd (eVar 2) (eC (.int 1))) aNil)))) (gNm 4)) (sSeq (sIf (bOf (eOp gIsN (eVar 4) (eC .non))) (sRet (eC .non)) sNil) (sRet (eTup (aCons (eTup (aCons (eC (.str "not")) (aCons (eOpL gIx 4 (eC (.int 0))) aNil))) (aCons (eOpL gIx 4 (eC (.int 1))) aNil)))))) sNil) (t_part_at_2 rec_part_at rec_and_at rec_or_at))
@[simp] theorem t_part_at_3_ap {rec_part_at rec_and_at rec_or_at : FF} {S : Ms} : t_part_at_3 rec_part_at rec_and_at rec_or_at S = (sSeq (sIf (bOf (eOp gEq (eVar 3) (eC (.str "not")))) (sSeq (sAsg (eFn 3 rec_part_at (aCons (eVar 0) (aCons (eOp gAdd (eVar 1) (eC (.int 1))) (aCons (eOp gAdd (eVar 2) (eC (.int 1))) aNil)))) (gNm 4)) (sSeq (sIf (bOf (eOp gIsN (eVar 4) (eC .non))) (sRet (eC .non)) sNil) (sRet (eTup (aCons (eTup (aCons (eC (.str "not")) (aCons (eOpL gIx 4 (eC (.int 0))) aNil))) (aCons (eOpL gIx 4 (eC (.int 1))) aNil)))))) sNil) (t_part_at_2 rec_part_at rec_and_at rec_or_at)) S := rfl
def t_part_at_4 (rec_part_at rec_and_at rec_or_at : FF) : SF := (sSeq (sIf (bOf (eOp gEq (eVar 2) (eC (.int 8)))) (sRet (eC .non)) sNil) (t_part_at_3 rec_part_at rec_and_at rec_or_at))
@[simp] theorem t_part_at_4_ap {rec_part_at rec_and_at rec_or_at : FF} {S : Ms} : t_part_at_4 rec_part_at rec_and_at rec_or_at S = (sSeq (sIf (bOf (eOp gEq (eVar 2) (eC (.int 8)))) (sRet (eC .non)) sNil) (t_part_at_3 rec_part_at rec_and_at rec_or_at)) S := rfl
def t_part_at_5 (rec_part_at rec_and_at rec_or_at : FF) : SF := (sSeq (sIf (bOf (eOp (gIn3 true) (eVar 3) (eTup (aCons (eC (.str "not")) (aCons (eC (.str "(")) aNil))))) (sRet (eFn 2 f_comparison_at (aCons (eVar 0) (aCons (eVar 1) aNil)))) sNil) (t_part_at_4 rec_part_at rec_and_at rec_or_at))
@[simp] theorem t_part_at_5_ap {rec_part_at rec_and_at rec_or_at : FF} {S : Ms} : t_part_at_5 rec_part_at rec_and_at rec_or_at S = (sSeq (sIf (bOf (eOp (gIn3 true) (eVar 3) (eTup (aCons (eC (.str "not")) (aCons (eC (.str "(")) aNil))))) (sRet (eFn 2 f_comparison_at (aCons (eVar 0) (aCons (eVar 1) aNil)))) sNil) (t_part_at_4 rec_part_at rec_and_at rec_or_at)) S := rfl
def b_part_at (rec_part_at rec_and_at rec_or_at : FF) : SF := (sSeq (sAsg (eFn 2 f_word_at (aCons (eVar 0) (aCons (eVar 1) aNil))) (gNm 3)) (t_part_at_5 rec_part_at rec_and_at rec_or_at))
def l_and_at_1 (rec_part_at rec_and_at rec_or_at : FF) : SF := (sSeq (sAsg (eFn 3 rec_part_at (aCons (eVar 0) (aCons (eOp gAdd (eOpL gIx 3 (eC (.int 1))) (eC (.int 1))) (aCons (eVar 2) aNil)))) (gNm 3)) (sSeq (sIf (bOf (eOp gIsN (eVar 3) (eC .non))) (sRet (eC .non)) sNil) (sExpr (eApp 4 (eOpL gIx 3 (eC (.int 0)))))))
def t_and_at_1 (rec_part_at rec_and_at rec_or_at : FF) : SF := (sSeq (sWhile (bOf (eOp gEq (eFn 2 f_word_at (aCons (eVar 0) (aCons (eOpL gIx 3 (eC (.int 1))) aNil))) (eC (.str "and")))) (l_and_at_1 rec_part_at rec_and_at rec_or_at)) (sRet (eTup (aCons (eFn 2 f_joined (aCons (eC (.str "and")) (aCons (eVar 4) aNil))) (aCons (eOpL gIx 3 (eC (.int 1))) aNil)))))
@[simp] theorem t_and_at_1_ap {rec_part_at rec_and_at rec_or_at : FF} {S : Ms} : t_and_at_1 rec_part_at rec_and_at rec_or_at S = (sSeq (sWhile (bOf (eOp gEq (eFn 2 f_word_at (aCons (eVar 0) (aCons (eOpL gIx 3 (eC (.int 1))) aNil))) (eC (.str "and")))) (l_and_at_1 rec_part_at rec_and_at rec_or_at)) (sRet (eTup (aCons (eFn 2 f_joined (aCons (eC (.str "and")) (aCons (eVar 4) aNil))) (aCons (eOpL gIx 3 (eC (.int 1))) aNil))))) S := rfl
def t_and_at_2 (rec_part_at rec_and_at rec_or_at : FF) : SF := (sSeq (sOwn 4 (cLst (aCons (eOpL gIx 3 (eC (.int 0))) aNil))) (t_and_at_1 rec_part_at rec_and_at rec_or_at))
@[simp] theorem t_and_at_2_ap {rec_part_at rec_and_at rec_or_at : FF} {S : Ms} : t_and_at_2 rec_part_at rec_and_at rec_or_at S = (sSeq (sOwn 4 (cLst (aCons (eOpL gIx 3 (eC (.int 0))) aNil))) (t_and_at_1 rec_part_at rec_and_at rec_or_at)) S := rfl
def t_and_at_3 (rec_part_at rec_and_at rec_or_at : FF) : SF := (sSeq (sIf (bOf (eOp gIsN (eVar 3) (eC .non))) (sRet (eC .non)) sNil) (t_and_at_2 rec_part_at rec_and_at rec_or_at))
@[simp] theorem t_and_at_3_ap {rec_part_at rec_and_at rec_or_at : FF} {S : Ms} : t_and_at_3 rec_part_at rec_and_at rec_or_at S = (sSeq (sIf (bOf (eOp gIsN (eVar 3) (eC .non))) (sRet (eC .non)) sNil) (t_and_at_2 rec_part_at rec_and_at rec_or_at)) S := rfl
def b_and_at (rec_part_at rec_and_at rec_or_at : FF) : SF := (sSeq (sAsg (eFn 3 rec_part_at (aCons (eVar 0) (aCons (eVar 1) (aCons (eVar 2) aNil)))) (gNm 3)) (t_and_at_3 rec_part_at rec_and_at rec_or_at))
def l_or_at_1 (rec_part_at rec_and_at rec_or_at : FF) : SF := (sSeq (sAsg (eFn 3 rec_and_at (aCons (eVar 0) (aCons (eOp gAdd (eOpL gIx 3 (eC (.int 1))) (eC (.int 1))) (aCons (eVar 2) aNil)))) (gNm 3)) (sSeq (sIf (bOf (eOp gIsN (eVar 3) (eC .non))) (sRet (eC .non)) sNil) (sExpr (eApp 4 (eOpL gIx 3 (eC (.int 0)))))))
def t_or_at_1 (rec_part_at rec_and_at rec_or_at : FF) : SF := (sSeq (sWhile (bOf (eOp gEq (eFn 2 f_word_at (aCons (eVar 0) (aCons (eOpL gIx 3 (eC (.int 1))) aNil))) (eC (.str "or")))) (l_or_at_1 rec_part_at rec_and_at rec_or_at)) (sRet (eTup (aCons (eFn 2 f_joined (aCons (eC (.str "or")) (aCons (eVar 4) aNil))) (aCons (eOpL gIx 3 (eC (.int 1))) aNil)))))
@[simp] theorem t_or_at_1_ap {rec_part_at rec_and_at rec_or_at : FF} {S : Ms} : t_or_at_1 rec_part_at rec_and_at rec_or_at S = (sSeq (sWhile (bOf (eOp gEq (eFn 2 f_word_at (aCons (eVar 0) (aCons (eOpL gIx 3 (eC (.int 1))) aNil))) (eC (.str "or")))) (l_or_at_1 rec_part_at rec_and_at rec_or_at)) (sRet (eTup (aCons (eFn 2 f_joined (aCons (eC (.str "or")) (aCons (eVar 4) aNil))) (aCons (eOpL gIx 3 (eC (.int 1))) aNil))))) S := rfl
def t_or_at_2 (rec_part_at rec_and_at rec_or_at : FF) : SF := (sSeq (sOwn 4 (cLst (aCons (eOpL gIx 3 (eC (.int 0))) aNil))) (t_or_at_1 rec_part_at rec_and_at rec_or_at))
@[simp] theorem t_or_at_2_ap {rec_part_at rec_and_at rec_or_at : FF} {S : Ms} : t_or_at_2 rec_part_at rec_and_at rec_or_at S = (sSeq (sOwn 4 (cLst (aCons (eOpL gIx 3 (eC (.int 0))) aNil))) (t_or_at_1 rec_part_at rec_and_at rec_or_at)) S := rfl
def t_or_at_3 (rec_part_at rec_and_at rec_or_at : FF) : SF := (sSeq (sIf (bOf (eOp gIsN (eVar 3) (eC .non))) (sRet (eC .non)) sNil) (t_or_at_2 rec_part_at rec_and_at rec_or_at))
@[simp] theorem t_or_at_3_ap {rec_part_at rec_and_at rec_or_at : FF} {S : Ms} : t_or_at_3 rec_part_at rec_and_at rec_or_at S = (sSeq (sIf (bOf (eOp gIsN (eVar 3) (eC .non))) (sRet (eC .non)) sNil) (t_or_at_2 rec_part_at rec_and_at rec_or_at)) S := rfl
def b_or_at (rec_part_at rec_and_at rec_or_at : FF) : SF := (sSeq (sAsg (eFn 3 rec_and_at (aCons (eVar 0) (aCons (eVar 1) (aCons (eVar 2) aNil)))) (gNm 3)) (t_or_at_3 rec_part_at rec_and_at rec_or_at))
def g_part_at : Nat → FF × FF × FF
  | 0 => (fnM 5 (fun _ => none), fnM 5 (fun _ => none), fnM 5 (fun _ => none))
  | n + 1 => (fnM 5 (b_part_at ((g_part_at n).1) ((g_part_at n).2.1) ((g_part_at n).2.2)), fnM 5 (b_and_at ((g_part_at n).1) ((g_part_at n).2.1) ((g_part_at n).2.2)), fnM 5 (b_or_at ((g_part_at n).1) ((g_part_at n).2.1) ((g_part_at n).2.2)))
def f_part_at (n : Nat) : FF := (g_part_at n).1
def f_and_at (n : Nat) : FF := (g_part_at n).2.1
def f_or_at (n : Nat) : FF := (g_part_at n).2.2
theorem f_part_at_succ (n : Nat) : f_part_at (n + 1) = fnM 5 (b_part_at (f_part_at n) (f_and_at n) (f_or_at n)) := rfl
theorem f_and_at_succ (n : Nat) : f_and_at (n + 1) = fnM 5 (b_and_at (f_part_at n) (f_and_at n) (f_or_at n)) := rfl
theorem f_or_at_succ (n : Nat) : f_or_at (n + 1) = fnM 5 (b_or_at (f_part_at n) (f_and_at n) (f_or_at n)) := rfl
def b_made_of_all : SF := (sSeq (sIf (bOr (bOf (eOp gIsN (eVar 0) (eC .non))) (bOf (eOp gNe (eOpL gIx 0 (eC (.int 1))) (eCallV gLen 1)))) (sRet (eC .non)) sNil) (sRet (eOpL gIx 0 (eC (.int 0)))))
def f_made_of_all : FF := fnM 2 b_made_of_all
def b_condition_of : SF := (sRet (eFn 2 f_made_of_all (aCons (eFn 3 (f_or_at 48) (aCons (eVar 0) (aCons (eC (.int 0)) (aCons (eC (.int 0)) aNil)))) (aCons (eVar 0) aNil))))
def f_condition_of : FF := fnM 1 b_condition_of
def b_read_condition : SF := (sSeq (sAsg (eFn 1 f_split_row (aCons (eVar 0) aNil)) (gNm 1)) (sSeq (sIf (bOf (eOp gIsN (eVar 1) (eC .non))) (sRet (eC .non)) sNil) (sRet (eFn 1 f_condition_of (aCons (eVar 1) aNil)))))
def f_read_condition : FF := fnM 2 b_read_condition
def b_write_plus : SF := (sSeq (sIf (bOf (eOp gGt (eVar 0) (eC (.int 0)))) (sRet (eOp gAdd (eC (.str " + ")) (eCallV gStr 0))) sNil) (sSeq (sIf (bOf (eOp gLt (eVar 0) (eC (.int 0)))) (sRet (eOp gAdd (eC (.str " - ")) (eCall gStr (eUn gNeg (eVar 0))))) sNil) (sRet (eC (.str "")))))
def f_write_plus : FF := fnM 1 b_write_plus
def b_write_expression (rec : FF) : SF := (sSeq (sIf (bOf (eOp gEq (eOpL gIx 0 (eC (.int 0))) (eC (.str "num")))) (sRet (eCall gStr (eOpL gIx 0 (eC (.int 1))))) sNil) (sSeq (sIf (bOf (eOp gEq (eOpL gIx 0 (eC (.int 0))) (eC (.str "var")))) (sRet (eOp gAdd (eOpL gIx 0 (eC (.int 1))) (eFn 1 f_write_plus (aCons (eOpL gIx 0 (eC (.int 2))) aNil)))) sNil) (sRet (eOp gAdd (eOp gAdd (eOp gAdd (eOp gAdd (eOpL gIx 0 (eC (.int 1))) (eC (.str "["))) (eFn 1 rec (aCons (eOpL gIx 0 (eC (.int 2))) aNil))) (eC (.str "]"))) (eFn 1 f_write_plus (aCons (eOpL gIx 0 (eC (.int 3))) aNil))))))
def f_write_expression : Nat → FF
  | 0 => fnM 1 (fun _ => none)
  | n + 1 => fnM 1 (b_write_expression (f_write_expression n))
def b_write_part (rec_write_part rec_write_condition : FF) : SF := (sSeq (sIf (bOf (eOpR (gIn3 false) (eOpL gIx 0 (eC (.int 0))) 1)) (sRet (eOp gAdd (eOp gAdd (eC (.str "(")) (eFn 1 rec_write_condition (aCons (eVar 0) aNil))) (eC (.str ")")))) sNil) (sRet (eFn 1 rec_write_condition (aCons (eVar 0) aNil))))
def c_write_condition_1 (rec_write_part rec_write_condition : FF) : EF := (eFn 2 rec_write_part (aCons (eVar 1) (aCons (eTup (aCons (eC (.str "and")) (aCons (eC (.str "or")) aNil))) aNil)))
def c_write_condition_2 (rec_write_part rec_write_condition : FF) : EF := (eFn 2 rec_write_part (aCons (eVar 1) (aCons (eTup (aCons (eC (.str "or")) aNil)) aNil)))
def t_write_condition_1 (rec_write_part rec_write_condition : FF) : SF := (sSeq (sIf (bOf (eOp gEq (eOpL gIx 0 (eC (.int 0))) (eC (.str "and")))) (sRet (eJoin (eC (.str " and ")) (eNew (cLc (iSeq (eOpL gIx 0 (eC (.int 1)))) (gNm 1) bYes (c_write_condition_1 rec_write_part rec_write_condition) [1])))) sNil) (sRet (eJoin (eC (.str " or ")) (eNew (cLc (iSeq (eOpL gIx 0 (eC (.int 1)))) (gNm 1) bYes (c_write_condition_2 rec_write_part rec_write_condition) [1])))))
@[simp] theorem t_write_condition_1_ap {rec_write_part rec_write_condition : FF} {S : Ms} : t_write_condition_1 rec_write_part rec_write_condition S = (sSeq (sIf (bOf (eOp gEq (eOpL gIx 0 (eC (.int 0))) (eC (.str "and")))) (sRet (eJoin (eC (.str " and ")) (eNew (cLc (iSeq (eOpL gIx 0 (eC (.int 1)))) (gNm 1) bYes (c_write_condition_1 rec_write_part rec_write_condition) [1])))) sNil) (sRet (eJoin (eC (.str " or ")) (eNew (cLc (iSeq (eOpL gIx 0 (eC (.int 1)))) (gNm 1) bYes (c_write_condition_2 rec_write_part rec_write_condition) [1]))))) S := rfl
def t_write_condition_2 (rec_write_part rec_write_condition : FF) : SF := (sSeq (sIf (bOf (eOp gEq (eOpL gIx 0 (eC (.int 0))) (eC (.str "not")))) (sRet (eOp gAdd (eC (.str "not ")) (eFn 2 rec_write_part (aCons (eOpL gIx 0 (eC (.int 1))) (aCons (eTup (aCons (eC (.str "and")) (aCons (eC (.str "or")) aNil))) aNil))))) sNil) (t_write_condition_1 rec_write_part rec_write_condition))
@[simp] theorem t_write_condition_2_ap {rec_write_part rec_write_condition : FF} {S : Ms} : t_write_condition_2 rec_write_part rec_write_condition S = (sSeq (sIf (bOf (eOp gEq (eOpL gIx 0 (eC (.int 0))) (eC (.str "not")))) (sRet (eOp gAdd (eC (.str "not ")) (eFn 2 rec_write_part (aCons (eOpL gIx 0 (eC (.int 1))) (aCons (eTup (aCons (eC (.str "and")) (aCons (eC (.str "or")) aNil))) aNil))))) sNil) (t_write_condition_1 rec_write_part rec_write_condition)) S := rfl
def b_write_condition (rec_write_part rec_write_condition : FF) : SF := (sSeq (sIf (bOf (eOp gEq (eOpL gIx 0 (eC (.int 0))) (eC (.str "cmp")))) (sRet (eOp gAdd (eOp gAdd (eOp gAdd (eOp gAdd (eFn 1 (f_write_expression 48) (aCons (eOpL gIx 0 (eC (.int 2))) aNil)) (eC (.str " "))) (eOpL gIx 0 (eC (.int 1)))) (eC (.str " "))) (eFn 1 (f_write_expression 48) (aCons (eOpL gIx 0 (eC (.int 3))) aNil)))) sNil) (t_write_condition_2 rec_write_part rec_write_condition))
def g_write_part : Nat → FF × FF
  | 0 => (fnM 2 (fun _ => none), fnM 2 (fun _ => none))
  | n + 1 => (fnM 2 (b_write_part ((g_write_part n).1) ((g_write_part n).2)), fnM 2 (b_write_condition ((g_write_part n).1) ((g_write_part n).2)))
def f_write_part (n : Nat) : FF := (g_write_part n).1
def f_write_condition (n : Nat) : FF := (g_write_part n).2
theorem f_write_part_succ (n : Nat) : f_write_part (n + 1) = fnM 2 (b_write_part (f_write_part n) (f_write_condition n)) := rfl
theorem f_write_condition_succ (n : Nat) : f_write_condition (n + 1) = fnM 2 (b_write_condition (f_write_part n) (f_write_condition n)) := rfl
def c_law_draws_1 : EF := (eCall gAbs (eCallV gInt3 5))
def t_law_draws_1 : SF := (sSeq (sAsg (eOp gMod (eCall gInt3 (eOp gAdd (eOp gDiv (eOp gMul4 (eVar 7) (eVar 7)) (eC (.int 4096))) (eVar 7))) (eC (.int 2147483629))) (gNm 7)) (sExpr (eApp 3 (eOp gMod (eCall gInt3 (eOp gAdd (eOp gDiv (eOp gMul4 (eVar 7) (eVar 7)) (eC (.int 4096))) (eOp gMul4 (eVar 4) (eC (.int 7919))))) (eC (.int 2147483629))))))
@[simp] theorem t_law_draws_1_ap {S : Ms} : t_law_draws_1 S = (sSeq (sAsg (eOp gMod (eCall gInt3 (eOp gAdd (eOp gDiv (eOp gMul4 (eVar 7) (eVar 7)) (eC (.int 4096))) (eVar 7))) (eC (.int 2147483629))) (gNm 7)) (sExpr (eApp 3 (eOp gMod (eCall gInt3 (eOp gAdd (eOp gDiv (eOp gMul4 (eVar 7) (eVar 7)) (eC (.int 4096))) (eOp gMul4 (eVar 4) (eC (.int 7919))))) (eC (.int 2147483629)))))) S := rfl
def t_law_draws_2 : SF := (sSeq (sAsg (eOp gMod (eCall gInt3 (eOp gAdd (eOp gAdd (eOp gMul4 (eVar 5) (eC (.int 48271))) (eOp gMul4 (eVar 4) (eC (.int 69621)))) (eC (.int 11)))) (eC (.int 2147483647))) (gNm 7)) t_law_draws_1)
@[simp] theorem t_law_draws_2_ap {S : Ms} : t_law_draws_2 S = (sSeq (sAsg (eOp gMod (eCall gInt3 (eOp gAdd (eOp gAdd (eOp gMul4 (eVar 5) (eC (.int 48271))) (eOp gMul4 (eVar 4) (eC (.int 69621)))) (eC (.int 11)))) (eC (.int 2147483647))) (gNm 7)) t_law_draws_1) S := rfl
def t_law_draws_3 : SF := (sSeq (sIf (bOf (eOp gGt (eCallV gLen 0) (eC (.int 0)))) (sSeq (sAsg (eOp gMod (eVar 4) (eCallV gLen 0)) (gNm 6)) (sSeq (sAsg (eCall gInt3 (eOpL gIx 0 (eVar 6))) (gNm 5)) (sIf (bAnd (bOf (eOp gGe (eVar 5) (eOp gPow (eC (.int 10)) (eC (.int 18))))) (bOf (eOp gGt (eOpL gIx 2 (eVar 6)) (eC (.int 0))))) (sSeq (sExpr (eApp 3 (eOp gMod (eCall gInt3 (eOpL gIx 2 (eVar 6))) (eC (.int 1000003))))) (sSeq (sAsg (eOp gDiv (eCall gInt3 (eOpL gIx 2 (eVar 6))) (eC (.int 1000003))) (gSubV 2 (eVar 6))) sCt)) sNil))) sNil) t_law_draws_2)
@[simp] theorem t_law_draws_3_ap {S : Ms} : t_law_draws_3 S = (sSeq (sIf (bOf (eOp gGt (eCallV gLen 0) (eC (.int 0)))) (sSeq (sAsg (eOp gMod (eVar 4) (eCallV gLen 0)) (gNm 6)) (sSeq (sAsg (eCall gInt3 (eOpL gIx 0 (eVar 6))) (gNm 5)) (sIf (bAnd (bOf (eOp gGe (eVar 5) (eOp gPow (eC (.int 10)) (eC (.int 18))))) (bOf (eOp gGt (eOpL gIx 2 (eVar 6)) (eC (.int 0))))) (sSeq (sExpr (eApp 3 (eOp gMod (eCall gInt3 (eOpL gIx 2 (eVar 6))) (eC (.int 1000003))))) (sSeq (sAsg (eOp gDiv (eCall gInt3 (eOpL gIx 2 (eVar 6))) (eC (.int 1000003))) (gSubV 2 (eVar 6))) sCt)) sNil))) sNil) t_law_draws_2) S := rfl
def l_law_draws_1 : SF := (sSeq (sAsg (eVar 4) (gNm 5)) t_law_draws_3)
def t_law_draws_4 : SF := (sSeq (sFor (iRg1 (eVar 1)) (gNm 4) l_law_draws_1) (sRet (eVar 3)))
@[simp] theorem t_law_draws_4_ap {S : Ms} : t_law_draws_4 S = (sSeq (sFor (iRg1 (eVar 1)) (gNm 4) l_law_draws_1) (sRet (eVar 3))) S := rfl
def t_law_draws_5 : SF := (sSeq (sOwn 3 (cLst aNil)) t_law_draws_4)
@[simp] theorem t_law_draws_5_ap {S : Ms} : t_law_draws_5 S = (sSeq (sOwn 3 (cLst aNil)) t_law_draws_4) S := rfl
def b_law_draws : SF := (sSeq (sOwn 2 (cLc (iSeq (eVar 0)) (gNm 5) bYes c_law_draws_1 [5])) t_law_draws_5)
def f_law_draws : FF := fnM 8 b_law_draws
def t_law_take_1 : SF := (sSeq (sIf (bOf (eOp gGe (eVar 2) (eCallV gLen 3))) (sRet (eC (.int 0))) sNil) (sRet (eOp gMod (eOp gDiv (eCall gInt3 (eOpL gIx 3 (eVar 2))) (eC (.int 7))) (eVar 1))))
@[simp] theorem t_law_take_1_ap {S : Ms} : t_law_take_1 S = (sSeq (sIf (bOf (eOp gGe (eVar 2) (eCallV gLen 3))) (sRet (eC (.int 0))) sNil) (sRet (eOp gMod (eOp gDiv (eCall gInt3 (eOpL gIx 3 (eVar 2))) (eC (.int 7))) (eVar 1)))) S := rfl
def t_law_take_2 : SF := (sSeq (sAsg (eOpL gIx 0 (eC (.int 0))) (gNm 3)) t_law_take_1)
@[simp] theorem t_law_take_2_ap {S : Ms} : t_law_take_2 S = (sSeq (sAsg (eOpL gIx 0 (eC (.int 0))) (gNm 3)) t_law_take_1) S := rfl
def t_law_take_3 : SF := (sSeq (sAsg (eOp gAdd (eVar 2) (eC (.int 1))) (gSubV 0 (eC (.int 1)))) t_law_take_2)
@[simp] theorem t_law_take_3_ap {S : Ms} : t_law_take_3 S = (sSeq (sAsg (eOp gAdd (eVar 2) (eC (.int 1))) (gSubV 0 (eC (.int 1)))) t_law_take_2) S := rfl
def b_law_take : SF := (sSeq (sAsg (eOpL gIx 0 (eC (.int 1))) (gNm 2)) t_law_take_3)
def f_law_take : FF := fnM 4 b_law_take
def b_law_letters : SF := (sRet (eC (.str "abcdefghijklmnopqrstuvwxyz")))
def f_law_letters : FF := fnM 0 b_law_letters
def b_law_reserved : SF := (sSeq (sAsg (eNew (cLst (aCons (eC (.str "input")) (aCons (eC (.str "from")) (aCons (eC (.str "to")) (aCons (eC (.str "list")) (aCons (eC (.str "def")) (aCons (eC (.str "let")) (aCons (eC (.str "if")) (aCons (eC (.str "else")) (aCons (eC (.str "end")) (aCons (eC (.str "while")) (aCons (eC (.str "at")) (aCons (eC (.str "most")) (aCons (eC (.str "check")) (aCons (eC (.str "refuse")) aNil)))))))))))))))) (gNm 0)) (sRet (eOp gAdd (eVar 0) (eNew (cLst (aCons (eC (.str "answer")) (aCons (eC (.str "return")) (aCons (eC (.str "skip")) (aCons (eC (.str "and")) (aCons (eC (.str "or")) (aCons (eC (.str "not")) (aCons (eC (.str "row")) (aCons (eC (.str "yes")) (aCons (eC (.str "no")) (aCons (eC (.str "turn")) (aCons (eC (.str "fault")) (aCons (eC (.str "when")) (aCons (eC (.str "then")) aNil))))))))))))))))))
def f_law_reserved : FF := fnM 1 b_law_reserved
def l_law_is_name_1 : SF := (sIf (bOf (eOp (gIn3 true) (eVar 1) (eFn 0 f_law_letters aNil))) (sRet (eC (.bl false))) sNil)
def b_law_is_name : SF := (sSeq (sIf (bOr (bOf (eOp gLt (eCallV gLen 0) (eC (.int 1)))) (bOr (bOf (eOp gGt (eCallV gLen 0) (eC (.int 12)))) (bOf (eOp (gIn3 false) (eVar 0) (eFn 0 f_law_reserved aNil))))) (sRet (eC (.bl false))) sNil) (sSeq (sFor (iStrM (eVar 0)) (gNm 1) l_law_is_name_1) (sRet (eC (.bl true)))))
def f_law_is_name : FF := fnM 2 b_law_is_name
def l_law_is_number_1 : SF := (sIf (bOf (eOp (gIn3 true) (eVar 1) (eC (.str "0123456789")))) (sRet (eC (.bl false))) sNil)
def b_law_is_number : SF := (sSeq (sIf (bOr (bOf (eOp gLt (eCallV gLen 0) (eC (.int 1)))) (bOr (bOf (eOp gGt (eCallV gLen 0) (eC (.int 10)))) (bAnd (bOf (eOp gGt (eCallV gLen 0) (eC (.int 1)))) (bOf (eOp gEq (eOpL gIx 0 (eC (.int 0))) (eC (.str "0"))))))) (sRet (eC (.bl false))) sNil) (sSeq (sFor (iStrM (eVar 0)) (gNm 1) l_law_is_number_1) (sRet (eC (.bl true)))))
def f_law_is_number : FF := fnM 2 b_law_is_number
def t_law_simple_1 : SF := (sSeq (sIf (bOf (eOp gEq (eVar 1) (eC (.int 5)))) (sAsg (eTup (aCons (eC (.str "var")) (aCons (eOp gIx (eNew (cLst (aCons (eC (.str "i")) (aCons (eC (.str "k")) aNil)))) (eFn 2 f_law_take (aCons (eVar 0) (aCons (eC (.int 2)) aNil)))) (aCons (eOp gSub (eFn 2 f_law_take (aCons (eVar 0) (aCons (eC (.int 3)) aNil))) (eC (.int 1))) aNil)))) (gNm 2)) sNil) (sRet (eTup (aCons (eC (.str "item")) (aCons (eOp gIx (eNew (cLst (aCons (eC (.str "xs")) (aCons (eC (.str "y")) aNil)))) (eFn 2 f_law_take (aCons (eVar 0) (aCons (eC (.int 2)) aNil)))) (aCons (eVar 2) (aCons (eOp gSub (eFn 2 f_law_take (aCons (eVar 0) (aCons (eC (.int 3)) aNil))) (eC (.int 1))) aNil)))))))
@[simp] theorem t_law_simple_1_ap {S : Ms} : t_law_simple_1 S = (sSeq (sIf (bOf (eOp gEq (eVar 1) (eC (.int 5)))) (sAsg (eTup (aCons (eC (.str "var")) (aCons (eOp gIx (eNew (cLst (aCons (eC (.str "i")) (aCons (eC (.str "k")) aNil)))) (eFn 2 f_law_take (aCons (eVar 0) (aCons (eC (.int 2)) aNil)))) (aCons (eOp gSub (eFn 2 f_law_take (aCons (eVar 0) (aCons (eC (.int 3)) aNil))) (eC (.int 1))) aNil)))) (gNm 2)) sNil) (sRet (eTup (aCons (eC (.str "item")) (aCons (eOp gIx (eNew (cLst (aCons (eC (.str "xs")) (aCons (eC (.str "y")) aNil)))) (eFn 2 f_law_take (aCons (eVar 0) (aCons (eC (.int 2)) aNil)))) (aCons (eVar 2) (aCons (eOp gSub (eFn 2 f_law_take (aCons (eVar 0) (aCons (eC (.int 3)) aNil))) (eC (.int 1))) aNil))))))) S := rfl
def t_law_simple_2 : SF := (sSeq (sAsg (eTup (aCons (eC (.str "num")) (aCons (eOp gSub (eFn 2 f_law_take (aCons (eVar 0) (aCons (eC (.int 6)) aNil))) (eC (.int 1))) aNil))) (gNm 2)) t_law_simple_1)
@[simp] theorem t_law_simple_2_ap {S : Ms} : t_law_simple_2 S = (sSeq (sAsg (eTup (aCons (eC (.str "num")) (aCons (eOp gSub (eFn 2 f_law_take (aCons (eVar 0) (aCons (eC (.int 6)) aNil))) (eC (.int 1))) aNil))) (gNm 2)) t_law_simple_1) S := rfl
def t_law_simple_3 : SF := (sSeq (sIf (bOf (eOp gLt (eVar 1) (eC (.int 4)))) (sRet (eTup (aCons (eC (.str "var")) (aCons (eOp gIx (eNew (cLst (aCons (eC (.str "a")) (aCons (eC (.str "b")) (aCons (eC (.str "c")) (aCons (eC (.str "i")) (aCons (eC (.str "range")) (aCons (eC (.str "turns")) aNil)))))))) (eFn 2 f_law_take (aCons (eVar 0) (aCons (eC (.int 6)) aNil)))) (aCons (eOp gSub (eFn 2 f_law_take (aCons (eVar 0) (aCons (eC (.int 5)) aNil))) (eC (.int 2))) aNil))))) sNil) t_law_simple_2)
@[simp] theorem t_law_simple_3_ap {S : Ms} : t_law_simple_3 S = (sSeq (sIf (bOf (eOp gLt (eVar 1) (eC (.int 4)))) (sRet (eTup (aCons (eC (.str "var")) (aCons (eOp gIx (eNew (cLst (aCons (eC (.str "a")) (aCons (eC (.str "b")) (aCons (eC (.str "c")) (aCons (eC (.str "i")) (aCons (eC (.str "range")) (aCons (eC (.str "turns")) aNil)))))))) (eFn 2 f_law_take (aCons (eVar 0) (aCons (eC (.int 6)) aNil)))) (aCons (eOp gSub (eFn 2 f_law_take (aCons (eVar 0) (aCons (eC (.int 5)) aNil))) (eC (.int 2))) aNil))))) sNil) t_law_simple_2) S := rfl
def t_law_simple_4 : SF := (sSeq (sIf (bOf (eOp gLt (eVar 1) (eC (.int 2)))) (sRet (eTup (aCons (eC (.str "num")) (aCons (eOp gSub (eFn 2 f_law_take (aCons (eVar 0) (aCons (eC (.int 12)) aNil))) (eC (.int 3))) aNil)))) sNil) t_law_simple_3)
@[simp] theorem t_law_simple_4_ap {S : Ms} : t_law_simple_4 S = (sSeq (sIf (bOf (eOp gLt (eVar 1) (eC (.int 2)))) (sRet (eTup (aCons (eC (.str "num")) (aCons (eOp gSub (eFn 2 f_law_take (aCons (eVar 0) (aCons (eC (.int 12)) aNil))) (eC (.int 3))) aNil)))) sNil) t_law_simple_3) S := rfl
def b_law_simple : SF := (sSeq (sAsg (eFn 2 f_law_take (aCons (eVar 0) (aCons (eC (.int 6)) aNil))) (gNm 1)) t_law_simple_4)
def f_law_simple : FF := fnM 3 b_law_simple
def l_law_tree_1 (rec : FF) : SF := (sExpr (eApp 7 (eFn 3 rec (aCons (eVar 0) (aCons (eOp gSub (eVar 1) (eC (.int 1))) (aCons (eOp gIx (eNew (cLst (aCons (eOp gDiv (eVar 2) (eVar 5)) (aCons (eC (.int 1)) aNil)))) (eCall gInt3 (eOp gGt (eVar 6) (eOp gDiv (eVar 2) (eVar 5))))) aNil))))))
def t_law_tree_1 (rec : FF) : SF := (sSeq (sFor (iRg1 (eOp gSub (eVar 5) (eC (.int 1)))) (gNm 8) (l_law_tree_1 rec)) (sRet (eTup (aCons (eOp gIx (eNew (cLst (aCons (eC (.str "and")) (aCons (eC (.str "or")) aNil)))) (eFn 2 f_law_take (aCons (eVar 0) (aCons (eC (.int 2)) aNil)))) (aCons (eCallV gTuple 7) aNil)))))
@[simp] theorem t_law_tree_1_ap {rec : FF} {S : Ms} : t_law_tree_1 rec S = (sSeq (sFor (iRg1 (eOp gSub (eVar 5) (eC (.int 1)))) (gNm 8) (l_law_tree_1 rec)) (sRet (eTup (aCons (eOp gIx (eNew (cLst (aCons (eC (.str "and")) (aCons (eC (.str "or")) aNil)))) (eFn 2 f_law_take (aCons (eVar 0) (aCons (eC (.int 2)) aNil)))) (aCons (eCallV gTuple 7) aNil))))) S := rfl
def t_law_tree_2 (rec : FF) : SF := (sSeq (sOwn 7 (cLst (aCons (eFn 3 rec (aCons (eVar 0) (aCons (eOp gSub (eVar 1) (eC (.int 1))) (aCons (eVar 6) aNil)))) aNil))) (t_law_tree_1 rec))
@[simp] theorem t_law_tree_2_ap {rec : FF} {S : Ms} : t_law_tree_2 rec S = (sSeq (sOwn 7 (cLst (aCons (eFn 3 rec (aCons (eVar 0) (aCons (eOp gSub (eVar 1) (eC (.int 1))) (aCons (eVar 6) aNil)))) aNil))) (t_law_tree_1 rec)) S := rfl
def t_law_tree_3 (rec : FF) : SF := (sSeq (sAsg (eOp gIx (eNew (cLst (aCons (eOp gDiv (eVar 2) (eVar 5)) (aCons (eOp gAdd (eOp gSub (eVar 2) (eVar 5)) (eC (.int 1))) aNil)))) (eFn 2 f_law_take (aCons (eVar 0) (aCons (eC (.int 2)) aNil)))) (gNm 6)) (t_law_tree_2 rec))
@[simp] theorem t_law_tree_3_ap {rec : FF} {S : Ms} : t_law_tree_3 rec S = (sSeq (sAsg (eOp gIx (eNew (cLst (aCons (eOp gDiv (eVar 2) (eVar 5)) (aCons (eOp gAdd (eOp gSub (eVar 2) (eVar 5)) (eC (.int 1))) aNil)))) (eFn 2 f_law_take (aCons (eVar 0) (aCons (eC (.int 2)) aNil)))) (gNm 6)) (t_law_tree_2 rec)) S := rfl
def t_law_tree_4 (rec : FF) : SF := (sSeq (sIf (bOf (eOp gEq (eFn 2 f_law_take (aCons (eVar 0) (aCons (eC (.int 2)) aNil))) (eC (.int 0)))) (sAsg (eC (.int 2)) (gNm 5)) sNil) (t_law_tree_3 rec))
@[simp] theorem t_law_tree_4_ap {rec : FF} {S : Ms} : t_law_tree_4 rec S = (sSeq (sIf (bOf (eOp gEq (eFn 2 f_law_take (aCons (eVar 0) (aCons (eC (.int 2)) aNil))) (eC (.int 0)))) (sAsg (eC (.int 2)) (gNm 5)) sNil) (t_law_tree_3 rec)) S := rfl
def t_law_tree_5 (rec : FF) : SF := (sSeq (sAsg (eOp gAdd (eC (.int 2)) (eOp gDiv (eFn 2 f_law_take (aCons (eVar 0) (aCons (eOp gSub (eOp gMul4 (eC (.int 3)) (eVar 2)) (eC (.int 3))) aNil))) (eC (.int 3)))) (gNm 5)) (t_law_tree_4 rec))
@[simp] theorem t_law_tree_5_ap {rec : FF} {S : Ms} : t_law_tree_5 rec S = (sSeq (sAsg (eOp gAdd (eC (.int 2)) (eOp gDiv (eFn 2 f_law_take (aCons (eVar 0) (aCons (eOp gSub (eOp gMul4 (eC (.int 3)) (eVar 2)) (eC (.int 3))) aNil))) (eC (.int 3)))) (gNm 5)) (t_law_tree_4 rec)) S := rfl
def t_law_tree_6 (rec : FF) : SF := (sSeq (sIf (bOf (eOp gEq (eVar 3) (eC (.int 2)))) (sRet (eTup (aCons (eC (.str "not")) (aCons (eFn 3 rec (aCons (eVar 0) (aCons (eOp gSub (eVar 1) (eC (.int 1))) (aCons (eVar 2) aNil)))) aNil)))) sNil) (t_law_tree_5 rec))
@[simp] theorem t_law_tree_6_ap {rec : FF} {S : Ms} : t_law_tree_6 rec S = (sSeq (sIf (bOf (eOp gEq (eVar 3) (eC (.int 2)))) (sRet (eTup (aCons (eC (.str "not")) (aCons (eFn 3 rec (aCons (eVar 0) (aCons (eOp gSub (eVar 1) (eC (.int 1))) (aCons (eVar 2) aNil)))) aNil)))) sNil) (t_law_tree_5 rec)) S := rfl
def t_law_tree_7 (rec : FF) : SF := (sSeq (sIf (bOr (bOf (eOp gEq (eVar 1) (eC (.int 0)))) (bOr (bOf (eOp gLt (eVar 3) (eC (.int 2)))) (bAnd (bOf (eOp gGt (eVar 3) (eC (.int 2)))) (bOf (eOp gLt (eVar 2) (eC (.int 2))))))) (sSeq (sAsg (eOp gIx (eNew (cLst (aCons (eC (.str "<")) (aCons (eC (.str "<=")) (aCons (eC (.str ">")) (aCons (eC (.str ">=")) (aCons (eC (.str "==")) (aCons (eC (.str "!=")) aNil)))))))) (eFn 2 f_law_take (aCons (eVar 0) (aCons (eC (.int 6)) aNil)))) (gNm 4)) (sRet (eTup (aCons (eC (.str "cmp")) (aCons (eVar 4) (aCons (eFn 1 f_law_simple (aCons (eVar 0) aNil)) (aCons (eFn 1 f_law_simple (aCons (eVar 0) aNil)) aNil))))))) sNil) (t_law_tree_6 rec))
@[simp] theorem t_law_tree_7_ap {rec : FF} {S : Ms} : t_law_tree_7 rec S = (sSeq (sIf (bOr (bOf (eOp gEq (eVar 1) (eC (.int 0)))) (bOr (bOf (eOp gLt (eVar 3) (eC (.int 2)))) (bAnd (bOf (eOp gGt (eVar 3) (eC (.int 2)))) (bOf (eOp gLt (eVar 2) (eC (.int 2))))))) (sSeq (sAsg (eOp gIx (eNew (cLst (aCons (eC (.str "<")) (aCons (eC (.str "<=")) (aCons (eC (.str ">")) (aCons (eC (.str ">=")) (aCons (eC (.str "==")) (aCons (eC (.str "!=")) aNil)))))))) (eFn 2 f_law_take (aCons (eVar 0) (aCons (eC (.int 6)) aNil)))) (gNm 4)) (sRet (eTup (aCons (eC (.str "cmp")) (aCons (eVar 4) (aCons (eFn 1 f_law_simple (aCons (eVar 0) aNil)) (aCons (eFn 1 f_law_simple (aCons (eVar 0) aNil)) aNil))))))) sNil) (t_law_tree_6 rec)) S := rfl
def b_law_tree (rec : FF) : SF := (sSeq (sAsg (eFn 2 f_law_take (aCons (eVar 0) (aCons (eC (.int 7)) aNil))) (gNm 3)) (t_law_tree_7 rec))
def f_law_tree : Nat → FF
  | 0 => fnM 9 (fun _ => none)
  | n + 1 => fnM 9 (b_law_tree (f_law_tree n))
def b_law_plus_words : SF := (sSeq (sIf (bOf (eOp gEq (eVar 0) (eC (.int 0)))) (sRet (eNew (cLst aNil))) sNil) (sRet (eNew (cLst (aCons (eOp gIx (eNew (cLst (aCons (eC (.str "-")) (aCons (eC (.str "+")) aNil)))) (eCall gInt3 (eOp gGt (eVar 0) (eC (.int 0))))) (aCons (eCall gStr (eCallV gAbs 0)) aNil))))))
def f_law_plus_words : FF := fnM 1 b_law_plus_words
def b_law_words_of (rec : FF) : SF := (sSeq (sIf (bOf (eOp gEq (eOpL gIx 0 (eC (.int 0))) (eC (.str "num")))) (sSeq (sIf (bOf (eOp gLt (eOpL gIx 0 (eC (.int 1))) (eC (.int 0)))) (sRet (eNew (cLst (aCons (eC (.str "-")) (aCons (eCall gStr (eUn gNeg (eOpL gIx 0 (eC (.int 1))))) aNil))))) sNil) (sRet (eNew (cLst (aCons (eCall gStr (eOpL gIx 0 (eC (.int 1)))) aNil))))) sNil) (sSeq (sIf (bOf (eOp gEq (eOpL gIx 0 (eC (.int 0))) (eC (.str "var")))) (sRet (eOp gAdd (eNew (cLst (aCons (eOpL gIx 0 (eC (.int 1))) aNil))) (eFn 1 f_law_plus_words (aCons (eOpL gIx 0 (eC (.int 2))) aNil)))) sNil) (sRet (eOp gAdd (eOp gAdd (eOp gAdd (eNew (cLst (aCons (eOpL gIx 0 (eC (.int 1))) (aCons (eC (.str "[")) aNil)))) (eFn 1 rec (aCons (eOpL gIx 0 (eC (.int 2))) aNil))) (eNew (cLst (aCons (eC (.str "]")) aNil)))) (eFn 1 f_law_plus_words (aCons (eOpL gIx 0 (eC (.int 3))) aNil))))))
def f_law_words_of : Nat → FF
  | 0 => fnM 1 (fun _ => none)
  | n + 1 => fnM 1 (b_law_words_of (f_law_words_of n))
def b_law_plus_text : SF := (sSeq (sIf (bOf (eOp gEq (eVar 0) (eC (.int 0)))) (sRet (eC (.str ""))) sNil) (sRet (eOp gAdd (eOp gAdd (eOp gAdd (eC (.str " ")) (eOp gIx (eNew (cLst (aCons (eC (.str "-")) (aCons (eC (.str "+")) aNil)))) (eCall gInt3 (eOp gGt (eVar 0) (eC (.int 0)))))) (eC (.str " "))) (eCall gStr (eCallV gAbs 0)))))
def f_law_plus_text : FF := fnM 1 b_law_plus_text
def b_law_text (rec : FF) : SF := (sSeq (sIf (bOf (eOp gEq (eOpL gIx 0 (eC (.int 0))) (eC (.str "num")))) (sRet (eCall gStr (eOpL gIx 0 (eC (.int 1))))) sNil) (sSeq (sIf (bOf (eOp gEq (eOpL gIx 0 (eC (.int 0))) (eC (.str "var")))) (sRet (eOp gAdd (eOpL gIx 0 (eC (.int 1))) (eFn 1 f_law_plus_text (aCons (eOpL gIx 0 (eC (.int 2))) aNil)))) sNil) (sRet (eOp gAdd (eOp gAdd (eOp gAdd (eOp gAdd (eOpL gIx 0 (eC (.int 1))) (eC (.str "["))) (eFn 1 rec (aCons (eOpL gIx 0 (eC (.int 2))) aNil))) (eC (.str "]"))) (eFn 1 f_law_plus_text (aCons (eOpL gIx 0 (eC (.int 3))) aNil))))))
def f_law_text : Nat → FF
  | 0 => fnM 1 (fun _ => none)
  | n + 1 => fnM 1 (b_law_text (f_law_text n))
def b_law_needs : SF := (sSeq (sIf (bOf (eOp gEq (eVar 0) (eC (.str "or")))) (sRet (eOp gEq (eOpL gIx 1 (eC (.int 0))) (eC (.str "or")))) sNil) (sRet (eOp (gIn3 false) (eOpL gIx 1 (eC (.int 0))) (eNew (cLst (aCons (eC (.str "and")) (aCons (eC (.str "or")) aNil)))))))
def f_law_needs : FF := fnM 2 b_law_needs
def l_law_condition_text_1 (rec : FF) : SF := (sSeq (sAsg (eFn 1 rec (aCons (eVar 3) aNil)) (gNm 4)) (sSeq (sIf (bTru (eFn 2 f_law_needs (aCons (eOpL gIx 0 (eC (.int 0))) (aCons (eVar 3) aNil)))) (sAsg (eOp gAdd (eOp gAdd (eC (.str "(")) (eVar 4)) (eC (.str ")"))) (gNm 4)) sNil) (sExpr (eApp 2 (eVar 4)))))
def t_law_condition_text_1 (rec : FF) : SF := (sSeq (sIf (bOf (eOp gEq (eOpL gIx 0 (eC (.int 0))) (eC (.str "not")))) (sRet (eOp gAdd (eC (.str "not ")) (eOpL gIx 2 (eC (.int 0))))) sNil) (sRet (eJoin (eOp gAdd (eOp gAdd (eC (.str " ")) (eOpL gIx 0 (eC (.int 0)))) (eC (.str " "))) (eVar 2))))
@[simp] theorem t_law_condition_text_1_ap {rec : FF} {S : Ms} : t_law_condition_text_1 rec S = (sSeq (sIf (bOf (eOp gEq (eOpL gIx 0 (eC (.int 0))) (eC (.str "not")))) (sRet (eOp gAdd (eC (.str "not ")) (eOpL gIx 2 (eC (.int 0))))) sNil) (sRet (eJoin (eOp gAdd (eOp gAdd (eC (.str " ")) (eOpL gIx 0 (eC (.int 0)))) (eC (.str " "))) (eVar 2)))) S := rfl
def t_law_condition_text_2 (rec : FF) : SF := (sSeq (sFor (iSeq (eVar 1)) (gNm 3) (l_law_condition_text_1 rec)) (t_law_condition_text_1 rec))
@[simp] theorem t_law_condition_text_2_ap {rec : FF} {S : Ms} : t_law_condition_text_2 rec S = (sSeq (sFor (iSeq (eVar 1)) (gNm 3) (l_law_condition_text_1 rec)) (t_law_condition_text_1 rec)) S := rfl
def t_law_condition_text_3 (rec : FF) : SF := (sSeq (sOwn 2 (cLst aNil)) (t_law_condition_text_2 rec))
@[simp] theorem t_law_condition_text_3_ap {rec : FF} {S : Ms} : t_law_condition_text_3 rec S = (sSeq (sOwn 2 (cLst aNil)) (t_law_condition_text_2 rec)) S := rfl
def t_law_condition_text_4 (rec : FF) : SF := (sSeq (sIf (bOf (eOp gEq (eOpL gIx 0 (eC (.int 0))) (eC (.str "not")))) (sAsg (eNew (cLst (aCons (eOpL gIx 0 (eC (.int 1))) aNil))) (gNm 1)) sNil) (t_law_condition_text_3 rec))
@[simp] theorem t_law_condition_text_4_ap {rec : FF} {S : Ms} : t_law_condition_text_4 rec S = (sSeq (sIf (bOf (eOp gEq (eOpL gIx 0 (eC (.int 0))) (eC (.str "not")))) (sAsg (eNew (cLst (aCons (eOpL gIx 0 (eC (.int 1))) aNil))) (gNm 1)) sNil) (t_law_condition_text_3 rec)) S := rfl
def t_law_condition_text_5 (rec : FF) : SF := (sSeq (sAsg (eOpL gIx 0 (eC (.int 1))) (gNm 1)) (t_law_condition_text_4 rec))
@[simp] theorem t_law_condition_text_5_ap {rec : FF} {S : Ms} : t_law_condition_text_5 rec S = (sSeq (sAsg (eOpL gIx 0 (eC (.int 1))) (gNm 1)) (t_law_condition_text_4 rec)) S := rfl
def b_law_condition_text (rec : FF) : SF := (sSeq (sIf (bOf (eOp gEq (eOpL gIx 0 (eC (.int 0))) (eC (.str "cmp")))) (sRet (eOp gAdd (eOp gAdd (eOp gAdd (eOp gAdd (eFn 1 (f_law_text 48) (aCons (eOpL gIx 0 (eC (.int 2))) aNil)) (eC (.str " "))) (eOpL gIx 0 (eC (.int 1)))) (eC (.str " "))) (eFn 1 (f_law_text 48) (aCons (eOpL gIx 0 (eC (.int 3))) aNil)))) sNil) (t_law_condition_text_5 rec))
def f_law_condition_text : Nat → FF
  | 0 => fnM 5 (fun _ => none)
  | n + 1 => fnM 5 (b_law_condition_text (f_law_condition_text n))
def b_law_joins : SF := (sSeq (sIf (bAnd (bOf (eOp (gIn3 false) (eOpL gIx 0 (eUn gNeg (eC (.int 1)))) (eFn 0 f_law_letters aNil))) (bOf (eOp (gIn3 false) (eOpL gIx 1 (eC (.int 0))) (eFn 0 f_law_letters aNil)))) (sRet (eC (.bl true))) sNil) (sSeq (sIf (bAnd (bOf (eOp (gIn3 false) (eOpL gIx 0 (eUn gNeg (eC (.int 1)))) (eC (.str "0123456789")))) (bOf (eOp (gIn3 false) (eOpL gIx 1 (eC (.int 0))) (eC (.str "0123456789"))))) (sRet (eC (.bl true))) sNil) (sRet (eAnd (eOp (gIn3 false) (eOpL gIx 0 (eUn gNeg (eC (.int 1)))) (eC (.str "<>=!"))) (eOp (gIn3 false) (eOpL gIx 1 (eC (.int 0))) (eC (.str "<>=!")))))))
def f_law_joins : FF := fnM 2 b_law_joins
def t_law_spaced_1 : SF := (sSeq (sIf (bAnd (bOf (eOp gEq (eVar 4) (eC (.int 0)))) (bAnd (bOf (eOp gLt (eOp gAdd (eVar 3) (eC (.int 1))) (eCallV gLen 1))) (bTru (eFn 2 f_law_joins (aCons (eOpL gIx 1 (eVar 3)) (aCons (eOpL gIx 1 (eOp gAdd (eVar 3) (eC (.int 1)))) aNil)))))) (sAsg (eC (.int 1)) (gNm 4)) sNil) (sAsg (eOp gAdd (eVar 2) (eOp gMul4 (eC (.str " ")) (eVar 4))) (gNm 2)))
@[simp] theorem t_law_spaced_1_ap {S : Ms} : t_law_spaced_1 S = (sSeq (sIf (bAnd (bOf (eOp gEq (eVar 4) (eC (.int 0)))) (bAnd (bOf (eOp gLt (eOp gAdd (eVar 3) (eC (.int 1))) (eCallV gLen 1))) (bTru (eFn 2 f_law_joins (aCons (eOpL gIx 1 (eVar 3)) (aCons (eOpL gIx 1 (eOp gAdd (eVar 3) (eC (.int 1)))) aNil)))))) (sAsg (eC (.int 1)) (gNm 4)) sNil) (sAsg (eOp gAdd (eVar 2) (eOp gMul4 (eC (.str " ")) (eVar 4))) (gNm 2))) S := rfl
def t_law_spaced_2 : SF := (sSeq (sAsg (eOp gIx (eNew (cLst (aCons (eC (.int 0)) (aCons (eC (.int 0)) (aCons (eC (.int 1)) (aCons (eC (.int 1)) (aCons (eC (.int 2)) (aCons (eOp gAdd (eC (.int 2)) (eFn 2 f_law_take (aCons (eVar 0) (aCons (eC (.int 5)) aNil)))) aNil)))))))) (eFn 2 f_law_take (aCons (eVar 0) (aCons (eC (.int 6)) aNil)))) (gNm 4)) t_law_spaced_1)
@[simp] theorem t_law_spaced_2_ap {S : Ms} : t_law_spaced_2 S = (sSeq (sAsg (eOp gIx (eNew (cLst (aCons (eC (.int 0)) (aCons (eC (.int 0)) (aCons (eC (.int 1)) (aCons (eC (.int 1)) (aCons (eC (.int 2)) (aCons (eOp gAdd (eC (.int 2)) (eFn 2 f_law_take (aCons (eVar 0) (aCons (eC (.int 5)) aNil)))) aNil)))))))) (eFn 2 f_law_take (aCons (eVar 0) (aCons (eC (.int 6)) aNil)))) (gNm 4)) t_law_spaced_1) S := rfl
def l_law_spaced_1 : SF := (sSeq (sAsg (eOp gAdd (eVar 2) (eOpL gIx 1 (eVar 3))) (gNm 2)) t_law_spaced_2)
def b_law_spaced : SF := (sSeq (sAsg (eOp gMul4 (eC (.str " ")) (eOp gDiv (eFn 2 f_law_take (aCons (eVar 0) (aCons (eC (.int 6)) aNil))) (eC (.int 3)))) (gNm 2)) (sSeq (sFor (iRg1 (eCallV gLen 1)) (gNm 3) l_law_spaced_1) (sRet (eVar 2))))
def f_law_spaced : FF := fnM 5 b_law_spaced
def t_law_spoilt_1 : SF := (sSeq (sAsg (eOpL gIx 1 (eVar 3)) (gSubV 7 (eVar 6))) (sRet (eVar 7)))
@[simp] theorem t_law_spoilt_1_ap {S : Ms} : t_law_spoilt_1 S = (sSeq (sAsg (eOpL gIx 1 (eVar 3)) (gSubV 7 (eVar 6))) (sRet (eVar 7))) S := rfl
def t_law_spoilt_2 : SF := (sSeq (sAsg (eOpL gIx 1 (eVar 6)) (gSubV 7 (eVar 3))) t_law_spoilt_1)
@[simp] theorem t_law_spoilt_2_ap {S : Ms} : t_law_spoilt_2 S = (sSeq (sAsg (eOpL gIx 1 (eVar 6)) (gSubV 7 (eVar 3))) t_law_spoilt_1) S := rfl
def t_law_spoilt_3 : SF := (sSeq (sOwn 7 (cCallV gList 1)) t_law_spoilt_2)
@[simp] theorem t_law_spoilt_3_ap {S : Ms} : t_law_spoilt_3 S = (sSeq (sOwn 7 (cCallV gList 1)) t_law_spoilt_2) S := rfl
def t_law_spoilt_4 : SF := (sSeq (sAsg (eFn 2 f_law_take (aCons (eVar 0) (aCons (eCallV gLen 1) aNil))) (gNm 6)) t_law_spoilt_3)
@[simp] theorem t_law_spoilt_4_ap {S : Ms} : t_law_spoilt_4 S = (sSeq (sAsg (eFn 2 f_law_take (aCons (eVar 0) (aCons (eCallV gLen 1) aNil))) (gNm 6)) t_law_spoilt_3) S := rfl
def t_law_spoilt_5 : SF := (sSeq (sIf (bOf (eOp gEq (eVar 4) (eC (.int 3)))) (sRet (eOp gAdd (eOp gAdd (eSl3 (eVar 1) oNone (oSome (eVar 3))) (eNew (cLst (aCons (eVar 5) aNil)))) (eSl3 (eVar 1) (oSome (eOp gAdd (eVar 3) (eC (.int 1)))) oNone))) sNil) t_law_spoilt_4)
@[simp] theorem t_law_spoilt_5_ap {S : Ms} : t_law_spoilt_5 S = (sSeq (sIf (bOf (eOp gEq (eVar 4) (eC (.int 3)))) (sRet (eOp gAdd (eOp gAdd (eSl3 (eVar 1) oNone (oSome (eVar 3))) (eNew (cLst (aCons (eVar 5) aNil)))) (eSl3 (eVar 1) (oSome (eOp gAdd (eVar 3) (eC (.int 1)))) oNone))) sNil) t_law_spoilt_4) S := rfl
def t_law_spoilt_6 : SF := (sSeq (sIf (bOf (eOp gEq (eVar 4) (eC (.int 2)))) (sRet (eOp gAdd (eOp gAdd (eSl3 (eVar 1) oNone (oSome (eVar 3))) (eNew (cLst (aCons (eVar 5) aNil)))) (eSl3 (eVar 1) (oSome (eVar 3)) oNone))) sNil) t_law_spoilt_5)
@[simp] theorem t_law_spoilt_6_ap {S : Ms} : t_law_spoilt_6 S = (sSeq (sIf (bOf (eOp gEq (eVar 4) (eC (.int 2)))) (sRet (eOp gAdd (eOp gAdd (eSl3 (eVar 1) oNone (oSome (eVar 3))) (eNew (cLst (aCons (eVar 5) aNil)))) (eSl3 (eVar 1) (oSome (eVar 3)) oNone))) sNil) t_law_spoilt_5) S := rfl
def t_law_spoilt_7 : SF := (sSeq (sIf (bOf (eOp gEq (eVar 4) (eC (.int 1)))) (sRet (eOp gAdd (eOp gAdd (eSl3 (eVar 1) oNone (oSome (eVar 3))) (eNew (cLst (aCons (eOpL gIx 1 (eVar 3)) aNil)))) (eSl3 (eVar 1) (oSome (eVar 3)) oNone))) sNil) t_law_spoilt_6)
@[simp] theorem t_law_spoilt_7_ap {S : Ms} : t_law_spoilt_7 S = (sSeq (sIf (bOf (eOp gEq (eVar 4) (eC (.int 1)))) (sRet (eOp gAdd (eOp gAdd (eSl3 (eVar 1) oNone (oSome (eVar 3))) (eNew (cLst (aCons (eOpL gIx 1 (eVar 3)) aNil)))) (eSl3 (eVar 1) (oSome (eVar 3)) oNone))) sNil) t_law_spoilt_6) S := rfl
def t_law_spoilt_8 : SF := (sSeq (sIf (bOf (eOp gEq (eVar 4) (eC (.int 0)))) (sRet (eOp gAdd (eSl3 (eVar 1) oNone (oSome (eVar 3))) (eSl3 (eVar 1) (oSome (eOp gAdd (eVar 3) (eC (.int 1)))) oNone))) sNil) t_law_spoilt_7)
@[simp] theorem t_law_spoilt_8_ap {S : Ms} : t_law_spoilt_8 S = (sSeq (sIf (bOf (eOp gEq (eVar 4) (eC (.int 0)))) (sRet (eOp gAdd (eSl3 (eVar 1) oNone (oSome (eVar 3))) (eSl3 (eVar 1) (oSome (eOp gAdd (eVar 3) (eC (.int 1)))) oNone))) sNil) t_law_spoilt_7) S := rfl
def t_law_spoilt_9 : SF := (sSeq (sIf (bOf (eOp gEq (eFn 2 f_law_take (aCons (eVar 0) (aCons (eC (.int 3)) aNil))) (eC (.int 0)))) (sAsg (eOp gIx (eFn 0 f_law_reserved aNil) (eFn 2 f_law_take (aCons (eVar 0) (aCons (eC (.int 27)) aNil)))) (gNm 5)) sNil) t_law_spoilt_8)
@[simp] theorem t_law_spoilt_9_ap {S : Ms} : t_law_spoilt_9 S = (sSeq (sIf (bOf (eOp gEq (eFn 2 f_law_take (aCons (eVar 0) (aCons (eC (.int 3)) aNil))) (eC (.int 0)))) (sAsg (eOp gIx (eFn 0 f_law_reserved aNil) (eFn 2 f_law_take (aCons (eVar 0) (aCons (eC (.int 27)) aNil)))) (gNm 5)) sNil) t_law_spoilt_8) S := rfl
def t_law_spoilt_10 : SF := (sSeq (sAsg (eOpL gIx 2 (eFn 2 f_law_take (aCons (eVar 0) (aCons (eCallV gLen 2) aNil)))) (gNm 5)) t_law_spoilt_9)
@[simp] theorem t_law_spoilt_10_ap {S : Ms} : t_law_spoilt_10 S = (sSeq (sAsg (eOpL gIx 2 (eFn 2 f_law_take (aCons (eVar 0) (aCons (eCallV gLen 2) aNil)))) (gNm 5)) t_law_spoilt_9) S := rfl
def t_law_spoilt_11 : SF := (sSeq (sAsg (eFn 2 f_law_take (aCons (eVar 0) (aCons (eC (.int 5)) aNil))) (gNm 4)) t_law_spoilt_10)
@[simp] theorem t_law_spoilt_11_ap {S : Ms} : t_law_spoilt_11 S = (sSeq (sAsg (eFn 2 f_law_take (aCons (eVar 0) (aCons (eC (.int 5)) aNil))) (gNm 4)) t_law_spoilt_10) S := rfl
def t_law_spoilt_12 : SF := (sSeq (sAsg (eFn 2 f_law_take (aCons (eVar 0) (aCons (eCallV gLen 1) aNil))) (gNm 3)) t_law_spoilt_11)
@[simp] theorem t_law_spoilt_12_ap {S : Ms} : t_law_spoilt_12 S = (sSeq (sAsg (eFn 2 f_law_take (aCons (eVar 0) (aCons (eCallV gLen 1) aNil))) (gNm 3)) t_law_spoilt_11) S := rfl
def t_law_spoilt_13 : SF := (sSeq (sAsg (eOp gAdd (eVar 2) (eNew (cLst (aCons (eC (.str ",")) (aCons (eC (.str ":")) (aCons (eC (.str "abcdefghijklm")) aNil)))))) (gNm 2)) t_law_spoilt_12)
@[simp] theorem t_law_spoilt_13_ap {S : Ms} : t_law_spoilt_13 S = (sSeq (sAsg (eOp gAdd (eVar 2) (eNew (cLst (aCons (eC (.str ",")) (aCons (eC (.str ":")) (aCons (eC (.str "abcdefghijklm")) aNil)))))) (gNm 2)) t_law_spoilt_12) S := rfl
def b_law_spoilt : SF := (sSeq (sAsg (eNew (cLst (aCons (eC (.str "a")) (aCons (eC (.str "ab")) (aCons (eC (.str "7")) (aCons (eC (.str "0")) (aCons (eC (.str "007")) (aCons (eC (.str "12345678901")) (aCons (eC (.str "-")) (aCons (eC (.str "+")) (aCons (eC (.str "[")) (aCons (eC (.str "]")) (aCons (eC (.str "(")) (aCons (eC (.str ")")) (aCons (eC (.str "and")) (aCons (eC (.str "or")) (aCons (eC (.str "not")) (aCons (eC (.str "<")) (aCons (eC (.str "==")) (aCons (eC (.str "=")) aNil)))))))))))))))))))) (gNm 2)) t_law_spoilt_13)
def f_law_spoilt : FF := fnM 8 b_law_spoilt
def b_law_signed : SF := (sSeq (sIf (bAnd (bOf (eOp gLt (eVar 1) (eCallV gLen 0))) (bTru (eFn 1 f_law_is_number (aCons (eOpL gIx 0 (eVar 1)) aNil)))) (sRet (eNew (cLst (aCons (eCall gInt3 (eOpL gIx 0 (eVar 1))) (aCons (eOp gAdd (eVar 1) (eC (.int 1))) aNil))))) sNil) (sSeq (sIf (bAnd (bOf (eOp gLt (eOp gAdd (eVar 1) (eC (.int 1))) (eCallV gLen 0))) (bAnd (bOf (eOp gEq (eOpL gIx 0 (eVar 1)) (eC (.str "-")))) (bTru (eFn 1 f_law_is_number (aCons (eOpL gIx 0 (eOp gAdd (eVar 1) (eC (.int 1)))) aNil))))) (sRet (eNew (cLst (aCons (eUn gNeg (eCall gInt3 (eOpL gIx 0 (eOp gAdd (eVar 1) (eC (.int 1)))))) (aCons (eOp gAdd (eVar 1) (eC (.int 2))) aNil))))) sNil) (sRet (eC .non))))
def f_law_signed : FF := fnM 2 b_law_signed
def b_law_read_plus : SF := (sSeq (sIf (bAnd (bOf (eOp gLt (eVar 1) (eCallV gLen 0))) (bOf (eOp (gIn3 false) (eOpL gIx 0 (eVar 1)) (eNew (cLst (aCons (eC (.str "+")) (aCons (eC (.str "-")) aNil))))))) (sSeq (sIf (bOr (bOf (eOp gGe (eOp gAdd (eVar 1) (eC (.int 1))) (eCallV gLen 0))) (bNot (bTru (eFn 1 f_law_is_number (aCons (eOpL gIx 0 (eOp gAdd (eVar 1) (eC (.int 1)))) aNil))))) (sRet (eC .non)) sNil) (sRet (eNew (cLst (aCons (eCall gInt3 (eOp gAdd (eOpL gIx 0 (eVar 1)) (eOpL gIx 0 (eOp gAdd (eVar 1) (eC (.int 1)))))) (aCons (eOp gAdd (eVar 1) (eC (.int 2))) aNil)))))) sNil) (sRet (eNew (cLst (aCons (eC (.int 0)) (aCons (eVar 1) aNil))))))
def f_law_read_plus : FF := fnM 2 b_law_read_plus
def t_law_read_plain_1 : SF := (sSeq (sIf (bOf (eOp gIsN (eVar 2) (eC .non))) (sRet (eC .non)) sNil) (sRet (eNew (cLst (aCons (eTup (aCons (eC (.str "var")) (aCons (eOpL gIx 0 (eVar 1)) (aCons (eOpL gIx 2 (eC (.int 0))) aNil)))) (aCons (eOpL gIx 2 (eC (.int 1))) aNil))))))
@[simp] theorem t_law_read_plain_1_ap {S : Ms} : t_law_read_plain_1 S = (sSeq (sIf (bOf (eOp gIsN (eVar 2) (eC .non))) (sRet (eC .non)) sNil) (sRet (eNew (cLst (aCons (eTup (aCons (eC (.str "var")) (aCons (eOpL gIx 0 (eVar 1)) (aCons (eOpL gIx 2 (eC (.int 0))) aNil)))) (aCons (eOpL gIx 2 (eC (.int 1))) aNil)))))) S := rfl
def t_law_read_plain_2 : SF := (sSeq (sAsg (eFn 2 f_law_read_plus (aCons (eVar 0) (aCons (eOp gAdd (eVar 1) (eC (.int 1))) aNil))) (gNm 2)) t_law_read_plain_1)
@[simp] theorem t_law_read_plain_2_ap {S : Ms} : t_law_read_plain_2 S = (sSeq (sAsg (eFn 2 f_law_read_plus (aCons (eVar 0) (aCons (eOp gAdd (eVar 1) (eC (.int 1))) aNil))) (gNm 2)) t_law_read_plain_1) S := rfl
def t_law_read_plain_3 : SF := (sSeq (sIf (bOr (bOf (eOp gGe (eVar 1) (eCallV gLen 0))) (bNot (bTru (eFn 1 f_law_is_name (aCons (eOpL gIx 0 (eVar 1)) aNil))))) (sRet (eC .non)) sNil) t_law_read_plain_2)
@[simp] theorem t_law_read_plain_3_ap {S : Ms} : t_law_read_plain_3 S = (sSeq (sIf (bOr (bOf (eOp gGe (eVar 1) (eCallV gLen 0))) (bNot (bTru (eFn 1 f_law_is_name (aCons (eOpL gIx 0 (eVar 1)) aNil))))) (sRet (eC .non)) sNil) t_law_read_plain_2) S := rfl
def t_law_read_plain_4 : SF := (sSeq (sIf (bOf (eOp gNotN (eVar 2) (eC .non))) (sRet (eNew (cLst (aCons (eTup (aCons (eC (.str "num")) (aCons (eOpL gIx 2 (eC (.int 0))) aNil))) (aCons (eOpL gIx 2 (eC (.int 1))) aNil))))) sNil) t_law_read_plain_3)
@[simp] theorem t_law_read_plain_4_ap {S : Ms} : t_law_read_plain_4 S = (sSeq (sIf (bOf (eOp gNotN (eVar 2) (eC .non))) (sRet (eNew (cLst (aCons (eTup (aCons (eC (.str "num")) (aCons (eOpL gIx 2 (eC (.int 0))) aNil))) (aCons (eOpL gIx 2 (eC (.int 1))) aNil))))) sNil) t_law_read_plain_3) S := rfl
def b_law_read_plain : SF := (sSeq (sAsg (eFn 2 f_law_signed (aCons (eVar 0) (aCons (eVar 1) aNil))) (gNm 2)) t_law_read_plain_4)
def f_law_read_plain : FF := fnM 3 b_law_read_plain
def t_law_read_1 : SF := (sSeq (sIf (bOf (eOp gIsN (eVar 3) (eC .non))) (sRet (eC .non)) sNil) (sRet (eNew (cLst (aCons (eTup (aCons (eC (.str "item")) (aCons (eOpL gIx 0 (eVar 1)) (aCons (eOpL gIx 2 (eC (.int 0))) (aCons (eOpL gIx 3 (eC (.int 0))) aNil))))) (aCons (eOpL gIx 3 (eC (.int 1))) aNil))))))
@[simp] theorem t_law_read_1_ap {S : Ms} : t_law_read_1 S = (sSeq (sIf (bOf (eOp gIsN (eVar 3) (eC .non))) (sRet (eC .non)) sNil) (sRet (eNew (cLst (aCons (eTup (aCons (eC (.str "item")) (aCons (eOpL gIx 0 (eVar 1)) (aCons (eOpL gIx 2 (eC (.int 0))) (aCons (eOpL gIx 3 (eC (.int 0))) aNil))))) (aCons (eOpL gIx 3 (eC (.int 1))) aNil)))))) S := rfl
def t_law_read_2 : SF := (sSeq (sAsg (eFn 2 f_law_read_plus (aCons (eVar 0) (aCons (eOp gAdd (eOpL gIx 2 (eC (.int 1))) (eC (.int 1))) aNil))) (gNm 3)) t_law_read_1)
@[simp] theorem t_law_read_2_ap {S : Ms} : t_law_read_2 S = (sSeq (sAsg (eFn 2 f_law_read_plus (aCons (eVar 0) (aCons (eOp gAdd (eOpL gIx 2 (eC (.int 1))) (eC (.int 1))) aNil))) (gNm 3)) t_law_read_1) S := rfl
def t_law_read_3 : SF := (sSeq (sIf (bOr (bOf (eOp gIsN (eVar 2) (eC .non))) (bOr (bOf (eOp gGe (eOpL gIx 2 (eC (.int 1))) (eCallV gLen 0))) (bOf (eOp gNe (eOpL gIx 0 (eOpL gIx 2 (eC (.int 1)))) (eC (.str "]")))))) (sRet (eC .non)) sNil) t_law_read_2)
@[simp] theorem t_law_read_3_ap {S : Ms} : t_law_read_3 S = (sSeq (sIf (bOr (bOf (eOp gIsN (eVar 2) (eC .non))) (bOr (bOf (eOp gGe (eOpL gIx 2 (eC (.int 1))) (eCallV gLen 0))) (bOf (eOp gNe (eOpL gIx 0 (eOpL gIx 2 (eC (.int 1)))) (eC (.str "]")))))) (sRet (eC .non)) sNil) t_law_read_2) S := rfl
def t_law_read_4 : SF := (sSeq (sAsg (eFn 2 f_law_read_plain (aCons (eVar 0) (aCons (eOp gAdd (eVar 1) (eC (.int 2))) aNil))) (gNm 2)) t_law_read_3)
@[simp] theorem t_law_read_4_ap {S : Ms} : t_law_read_4 S = (sSeq (sAsg (eFn 2 f_law_read_plain (aCons (eVar 0) (aCons (eOp gAdd (eVar 1) (eC (.int 2))) aNil))) (gNm 2)) t_law_read_3) S := rfl
def b_law_read : SF := (sSeq (sIf (bOr (bOf (eOp gGe (eOp gAdd (eVar 1) (eC (.int 1))) (eCallV gLen 0))) (bOr (bNot (bTru (eFn 1 f_law_is_name (aCons (eOpL gIx 0 (eVar 1)) aNil)))) (bOf (eOp gNe (eOpL gIx 0 (eOp gAdd (eVar 1) (eC (.int 1)))) (eC (.str "[")))))) (sRet (eFn 2 f_law_read_plain (aCons (eVar 0) (aCons (eVar 1) aNil)))) sNil) t_law_read_4)
def f_law_read : FF := fnM 4 b_law_read
def l_law_same_1 (rec : FF) : SF := (sIf (bNot (bTru (eFn 2 rec (aCons (eOpL gIx 0 (eVar 2)) (aCons (eOpL gIx 1 (eVar 2)) aNil))))) (sRet (eC (.bl false))) sNil)
def t_law_same_1 (rec : FF) : SF := (sSeq (sIf (bOf (eOp gIsN (eVar 1) (eC .non))) (sRet (eOp gIsN (eVar 0) (eC .non))) sNil) (sRet (eAnd (eIsiC "int" (eVar 0)) (eAnd (eNot (eIsiC "bool" (eVar 0))) (eOp gEq (eVar 0) (eVar 1))))))
@[simp] theorem t_law_same_1_ap {rec : FF} {S : Ms} : t_law_same_1 rec S = (sSeq (sIf (bOf (eOp gIsN (eVar 1) (eC .non))) (sRet (eOp gIsN (eVar 0) (eC .non))) sNil) (sRet (eAnd (eIsiC "int" (eVar 0)) (eAnd (eNot (eIsiC "bool" (eVar 0))) (eOp gEq (eVar 0) (eVar 1)))))) S := rfl
def t_law_same_2 (rec : FF) : SF := (sSeq (sIf (bTru (eIsiC "str" (eVar 1))) (sRet (eAnd (eIsiC "str" (eVar 0)) (eOp gEq (eVar 0) (eVar 1)))) sNil) (t_law_same_1 rec))
@[simp] theorem t_law_same_2_ap {rec : FF} {S : Ms} : t_law_same_2 rec S = (sSeq (sIf (bTru (eIsiC "str" (eVar 1))) (sRet (eAnd (eIsiC "str" (eVar 0)) (eOp gEq (eVar 0) (eVar 1)))) sNil) (t_law_same_1 rec)) S := rfl
def b_law_same (rec : FF) : SF := (sSeq (sIf (bTru (eIsiC "tuple" (eVar 1))) (sSeq (sIf (bOr (bNot (bTru (eIsiC "tuple" (eVar 0)))) (bOf (eOp gNe (eCallV gLen 0) (eCallV gLen 1)))) (sRet (eC (.bl false))) sNil) (sSeq (sFor (iRg1 (eCallV gLen 1)) (gNm 2) (l_law_same_1 rec)) (sRet (eC (.bl true))))) sNil) (t_law_same_2 rec))
def f_law_same : Nat → FF
  | 0 => fnM 3 (fun _ => none)
  | n + 1 => fnM 3 (b_law_same (f_law_same n))
def t_law_many_1 : SF := (sSeq (sIf (bOf (eOp gEq (eVar 1) (eC (.int 38)))) (sRet (eC (.int 8))) sNil) (sRet (eOp gIx (eNew (cLst (aCons (eC (.int 0)) (aCons (eC (.int 1)) (aCons (eC (.int 2)) aNil))))) (eCalls gMax2 (aCons (eC (.int 0)) (aCons (eOp gSub (eVar 1) (eC (.int 35))) aNil))))))
@[simp] theorem t_law_many_1_ap {S : Ms} : t_law_many_1 S = (sSeq (sIf (bOf (eOp gEq (eVar 1) (eC (.int 38)))) (sRet (eC (.int 8))) sNil) (sRet (eOp gIx (eNew (cLst (aCons (eC (.int 0)) (aCons (eC (.int 1)) (aCons (eC (.int 2)) aNil))))) (eCalls gMax2 (aCons (eC (.int 0)) (aCons (eOp gSub (eVar 1) (eC (.int 35))) aNil)))))) S := rfl
def t_law_many_2 : SF := (sSeq (sIf (bOf (eOp gEq (eVar 1) (eC (.int 39)))) (sRet (eC (.int 9))) sNil) t_law_many_1)
@[simp] theorem t_law_many_2_ap {S : Ms} : t_law_many_2 S = (sSeq (sIf (bOf (eOp gEq (eVar 1) (eC (.int 39)))) (sRet (eC (.int 9))) sNil) t_law_many_1) S := rfl
def b_law_many : SF := (sSeq (sAsg (eFn 2 f_law_take (aCons (eVar 0) (aCons (eC (.int 40)) aNil))) (gNm 1)) t_law_many_2)
def f_law_many : FF := fnM 2 b_law_many
def t_law_dressed_1 (rec : FF) : SF := (sSeq (sOwn 4 (cCatL 4 (eOpL gIx 5 (eC (.int 0))))) (sIf (bOf (eOp gGt (eOpL gIx 5 (eC (.int 1))) (eVar 6))) (sAsg (eOpL gIx 5 (eC (.int 1))) (gNm 6)) sNil))
@[simp] theorem t_law_dressed_1_ap {rec : FF} {S : Ms} : t_law_dressed_1 rec S = (sSeq (sOwn 4 (cCatL 4 (eOpL gIx 5 (eC (.int 0))))) (sIf (bOf (eOp gGt (eOpL gIx 5 (eC (.int 1))) (eVar 6))) (sAsg (eOpL gIx 5 (eC (.int 1))) (gNm 6)) sNil)) S := rfl
def t_law_dressed_2 (rec : FF) : SF := (sSeq (sIf (bOf (eOp gGt (eCallV gLen 4) (eC (.int 0)))) (sExpr (eApp 4 (eOpL gIx 1 (eC (.int 0))))) sNil) (t_law_dressed_1 rec))
@[simp] theorem t_law_dressed_2_ap {rec : FF} {S : Ms} : t_law_dressed_2 rec S = (sSeq (sIf (bOf (eOp gGt (eCallV gLen 4) (eC (.int 0)))) (sExpr (eApp 4 (eOpL gIx 1 (eC (.int 0))))) sNil) (t_law_dressed_1 rec)) S := rfl
def l_law_dressed_1 (rec : FF) : SF := (sSeq (sAsg (eFn 4 rec (aCons (eVar 0) (aCons (eVar 7) (aCons (eCall gInt3 (eFn 2 f_law_needs (aCons (eOpL gIx 1 (eC (.int 0))) (aCons (eVar 7) aNil)))) (aCons (eVar 3) aNil))))) (gNm 5)) (t_law_dressed_2 rec))
def t_law_dressed_3 (rec : FF) : SF := (sSeq (sFor (iSeq (eOpL gIx 1 (eC (.int 1)))) (gNm 7) (l_law_dressed_1 rec)) (sRet (eNew (cLst (aCons (eOp gAdd (eOpR gAdd (eOp gMul4 (eNew (cLst (aCons (eC (.str "(")) aNil))) (eVar 2)) 4) (eOp gMul4 (eNew (cLst (aCons (eC (.str ")")) aNil))) (eVar 2))) (aCons (eOp gAdd (eVar 2) (eVar 6)) aNil))))))
@[simp] theorem t_law_dressed_3_ap {rec : FF} {S : Ms} : t_law_dressed_3 rec S = (sSeq (sFor (iSeq (eOpL gIx 1 (eC (.int 1)))) (gNm 7) (l_law_dressed_1 rec)) (sRet (eNew (cLst (aCons (eOp gAdd (eOpR gAdd (eOp gMul4 (eNew (cLst (aCons (eC (.str "(")) aNil))) (eVar 2)) 4) (eOp gMul4 (eNew (cLst (aCons (eC (.str ")")) aNil))) (eVar 2))) (aCons (eOp gAdd (eVar 2) (eVar 6)) aNil)))))) S := rfl
def t_law_dressed_4 (rec : FF) : SF := (sSeq (sAsg (eC (.int 0)) (gNm 6)) (t_law_dressed_3 rec))
@[simp] theorem t_law_dressed_4_ap {rec : FF} {S : Ms} : t_law_dressed_4 rec S = (sSeq (sAsg (eC (.int 0)) (gNm 6)) (t_law_dressed_3 rec)) S := rfl
def t_law_dressed_5 (rec : FF) : SF := (sSeq (sOwn 4 (cLst aNil)) (t_law_dressed_4 rec))
@[simp] theorem t_law_dressed_5_ap {rec : FF} {S : Ms} : t_law_dressed_5 rec S = (sSeq (sOwn 4 (cLst aNil)) (t_law_dressed_4 rec)) S := rfl
def t_law_dressed_6 (rec : FF) : SF := (sSeq (sIf (bOf (eOp gEq (eOpL gIx 1 (eC (.int 0))) (eC (.str "not")))) (sSeq (sAsg (eFn 4 rec (aCons (eVar 0) (aCons (eOpL gIx 1 (eC (.int 1))) (aCons (eCall gInt3 (eFn 2 f_law_needs (aCons (eC (.str "not")) (aCons (eOpL gIx 1 (eC (.int 1))) aNil)))) (aCons (eVar 3) aNil))))) (gNm 5)) (sRet (eNew (cLst (aCons (eOp gAdd (eOp gAdd (eOp gAdd (eOp gMul4 (eNew (cLst (aCons (eC (.str "(")) aNil))) (eVar 2)) (eNew (cLst (aCons (eC (.str "not")) aNil)))) (eOpL gIx 5 (eC (.int 0)))) (eOp gMul4 (eNew (cLst (aCons (eC (.str ")")) aNil))) (eVar 2))) (aCons (eOp gAdd (eOp gAdd (eVar 2) (eC (.int 1))) (eOpL gIx 5 (eC (.int 1)))) aNil)))))) sNil) (t_law_dressed_5 rec))
@[simp] theorem t_law_dressed_6_ap {rec : FF} {S : Ms} : t_law_dressed_6 rec S = (sSeq (sIf (bOf (eOp gEq (eOpL gIx 1 (eC (.int 0))) (eC (.str "not")))) (sSeq (sAsg (eFn 4 rec (aCons (eVar 0) (aCons (eOpL gIx 1 (eC (.int 1))) (aCons (eCall gInt3 (eFn 2 f_law_needs (aCons (eC (.str "not")) (aCons (eOpL gIx 1 (eC (.int 1))) aNil)))) (aCons (eVar 3) aNil))))) (gNm 5)) (sRet (eNew (cLst (aCons (eOp gAdd (eOp gAdd (eOp gAdd (eOp gMul4 (eNew (cLst (aCons (eC (.str "(")) aNil))) (eVar 2)) (eNew (cLst (aCons (eC (.str "not")) aNil)))) (eOpL gIx 5 (eC (.int 0)))) (eOp gMul4 (eNew (cLst (aCons (eC (.str ")")) aNil))) (eVar 2))) (aCons (eOp gAdd (eOp gAdd (eVar 2) (eC (.int 1))) (eOpL gIx 5 (eC (.int 1)))) aNil)))))) sNil) (t_law_dressed_5 rec)) S := rfl
def t_law_dressed_7 (rec : FF) : SF := (sSeq (sIf (bOf (eOp gEq (eOpL gIx 1 (eC (.int 0))) (eC (.str "cmp")))) (sSeq (sOwn 4 (cCat (eOp gAdd (eFn 1 (f_law_words_of 48) (aCons (eOpL gIx 1 (eC (.int 2))) aNil)) (eNew (cLst (aCons (eOpL gIx 1 (eC (.int 1))) aNil)))) (eFn 1 (f_law_words_of 48) (aCons (eOpL gIx 1 (eC (.int 3))) aNil)))) (sRet (eNew (cLst (aCons (eOp gAdd (eOpR gAdd (eOp gMul4 (eNew (cLst (aCons (eC (.str "(")) aNil))) (eVar 2)) 4) (eOp gMul4 (eNew (cLst (aCons (eC (.str ")")) aNil))) (eVar 2))) (aCons (eVar 2) aNil)))))) sNil) (t_law_dressed_6 rec))
@[simp] theorem t_law_dressed_7_ap {rec : FF} {S : Ms} : t_law_dressed_7 rec S = (sSeq (sIf (bOf (eOp gEq (eOpL gIx 1 (eC (.int 0))) (eC (.str "cmp")))) (sSeq (sOwn 4 (cCat (eOp gAdd (eFn 1 (f_law_words_of 48) (aCons (eOpL gIx 1 (eC (.int 2))) aNil)) (eNew (cLst (aCons (eOpL gIx 1 (eC (.int 1))) aNil)))) (eFn 1 (f_law_words_of 48) (aCons (eOpL gIx 1 (eC (.int 3))) aNil)))) (sRet (eNew (cLst (aCons (eOp gAdd (eOpR gAdd (eOp gMul4 (eNew (cLst (aCons (eC (.str "(")) aNil))) (eVar 2)) 4) (eOp gMul4 (eNew (cLst (aCons (eC (.str ")")) aNil))) (eVar 2))) (aCons (eVar 2) aNil)))))) sNil) (t_law_dressed_6 rec)) S := rfl
def b_law_dressed (rec : FF) : SF := (sSeq (sIf (bTruV 3) (sAsg (eOp gAdd (eVar 2) (eFn 1 f_law_many (aCons (eVar 0) aNil))) (gNm 2)) sNil) (t_law_dressed_7 rec))
def f_law_dressed : Nat → FF
  | 0 => fnM 8 (fun _ => none)
  | n + 1 => fnM 8 (b_law_dressed (f_law_dressed n))
def t_law_read_cmp_1 : SF := (sSeq (sIf (bOf (eOp gIsN (eVar 3) (eC .non))) (sRet (eC .non)) sNil) (sRet (eNew (cLst (aCons (eTup (aCons (eC (.str "cmp")) (aCons (eOpL gIx 0 (eOpL gIx 2 (eC (.int 1)))) (aCons (eOpL gIx 2 (eC (.int 0))) (aCons (eOpL gIx 3 (eC (.int 0))) aNil))))) (aCons (eOpL gIx 3 (eC (.int 1))) aNil))))))
@[simp] theorem t_law_read_cmp_1_ap {S : Ms} : t_law_read_cmp_1 S = (sSeq (sIf (bOf (eOp gIsN (eVar 3) (eC .non))) (sRet (eC .non)) sNil) (sRet (eNew (cLst (aCons (eTup (aCons (eC (.str "cmp")) (aCons (eOpL gIx 0 (eOpL gIx 2 (eC (.int 1)))) (aCons (eOpL gIx 2 (eC (.int 0))) (aCons (eOpL gIx 3 (eC (.int 0))) aNil))))) (aCons (eOpL gIx 3 (eC (.int 1))) aNil)))))) S := rfl
def t_law_read_cmp_2 : SF := (sSeq (sAsg (eFn 2 f_law_read (aCons (eVar 0) (aCons (eOp gAdd (eOpL gIx 2 (eC (.int 1))) (eC (.int 1))) aNil))) (gNm 3)) t_law_read_cmp_1)
@[simp] theorem t_law_read_cmp_2_ap {S : Ms} : t_law_read_cmp_2 S = (sSeq (sAsg (eFn 2 f_law_read (aCons (eVar 0) (aCons (eOp gAdd (eOpL gIx 2 (eC (.int 1))) (eC (.int 1))) aNil))) (gNm 3)) t_law_read_cmp_1) S := rfl
def t_law_read_cmp_3 : SF := (sSeq (sIf (bOr (bOf (eOp gIsN (eVar 2) (eC .non))) (bOr (bOf (eOp gGe (eOpL gIx 2 (eC (.int 1))) (eCallV gLen 0))) (bOf (eOp (gIn3 true) (eOpL gIx 0 (eOpL gIx 2 (eC (.int 1)))) (eNew (cLst (aCons (eC (.str "<")) (aCons (eC (.str "<=")) (aCons (eC (.str ">")) (aCons (eC (.str ">=")) (aCons (eC (.str "==")) (aCons (eC (.str "!=")) aNil)))))))))))) (sRet (eC .non)) sNil) t_law_read_cmp_2)
@[simp] theorem t_law_read_cmp_3_ap {S : Ms} : t_law_read_cmp_3 S = (sSeq (sIf (bOr (bOf (eOp gIsN (eVar 2) (eC .non))) (bOr (bOf (eOp gGe (eOpL gIx 2 (eC (.int 1))) (eCallV gLen 0))) (bOf (eOp (gIn3 true) (eOpL gIx 0 (eOpL gIx 2 (eC (.int 1)))) (eNew (cLst (aCons (eC (.str "<")) (aCons (eC (.str "<=")) (aCons (eC (.str ">")) (aCons (eC (.str ">=")) (aCons (eC (.str "==")) (aCons (eC (.str "!=")) aNil)))))))))))) (sRet (eC .non)) sNil) t_law_read_cmp_2) S := rfl
def b_law_read_cmp : SF := (sSeq (sAsg (eFn 2 f_law_read (aCons (eVar 0) (aCons (eVar 1) aNil))) (gNm 2)) t_law_read_cmp_3)
def f_law_read_cmp : FF := fnM 4 b_law_read_cmp
def t_law_read_not_1 (rec_law_read_not rec_law_read_and rec_law_read_or : FF) : SF := (sSeq (sIf (bOr (bOf (eOp gIsN (eVar 3) (eC .non))) (bOr (bOf (eOp gGe (eOpL gIx 3 (eC (.int 1))) (eCallV gLen 0))) (bOf (eOp gNe (eOpL gIx 0 (eOpL gIx 3 (eC (.int 1)))) (eC (.str ")")))))) (sRet (eC .non)) sNil) (sRet (eNew (cLst (aCons (eOpL gIx 3 (eC (.int 0))) (aCons (eOp gAdd (eOpL gIx 3 (eC (.int 1))) (eC (.int 1))) aNil))))))
@[simp] theorem t_law_read_not_1_ap {rec_law_read_not rec_law_read_and rec_law_read_or : FF} {S : Ms} : t_law_read_not_1 rec_law_read_not rec_law_read_and rec_law_read_or S = (sSeq (sIf (bOr (bOf (eOp gIsN (eVar 3) (eC .non))) (bOr (bOf (eOp gGe (eOpL gIx 3 (eC (.int 1))) (eCallV gLen 0))) (bOf (eOp gNe (eOpL gIx 0 (eOpL gIx 3 (eC (.int 1)))) (eC (.str ")")))))) (sRet (eC .non)) sNil) (sRet (eNew (cLst (aCons (eOpL gIx 3 (eC (.int 0))) (aCons (eOp gAdd (eOpL gIx 3 (eC (.int 1))) (eC (.int 1))) aNil)))))) S := rfl
def t_law_read_not_2 (rec_law_read_not rec_law_read_and rec_law_read_or : FF) : SF := (sSeq (sAsg (eFn 3 rec_law_read_or (aCons (eVar 0) (aCons (eOp gAdd (eVar 1) (eC (.int 1))) (aCons (eOp gAdd (eVar 2) (eC (.int 1))) aNil)))) (gNm 3)) (t_law_read_not_1 rec_law_read_not rec_law_read_and rec_law_read_or))
@[simp] theorem t_law_read_not_2_ap {rec_law_read_not rec_law_read_and rec_law_read_or : FF} {S : Ms} : t_law_read_not_2 rec_law_read_not rec_law_read_and rec_law_read_or S = (sSeq (sAsg (eFn 3 rec_law_read_or (aCons (eVar 0) (aCons (eOp gAdd (eVar 1) (eC (.int 1))) (aCons (eOp gAdd (eVar 2) (eC (.int 1))) aNil)))) (gNm 3)) (t_law_read_not_1 rec_law_read_not rec_law_read_and rec_law_read_or)) S := rfl
def t_law_read_not_3 (rec_law_read_not rec_law_read_and rec_law_read_or : FF) : SF := (sSeq (sIf (bOf (eOp gEq (eOpL gIx 0 (eVar 1)) (eC (.str "not")))) (sSeq (sAsg (eFn 3 rec_law_read_not (aCons (eVar 0) (aCons (eOp gAdd (eVar 1) (eC (.int 1))) (aCons (eOp gAdd (eVar 2) (eC (.int 1))) aNil)))) (gNm 3)) (sSeq (sIf (bOf (eOp gIsN (eVar 3) (eC .non))) (sRet (eC .non)) sNil) (sRet (eNew (cLst (aCons (eTup (aCons (eC (.str "not")) (aCons (eOpL gIx 3 (eC (.int 0))) aNil))) (aCons (eOpL gIx 3 (eC (.int 1))) aNil))))))) sNil) (t_law_read_not_2 rec_law_read_not rec_law_read_and rec_law_read_or))
@[simp] theorem t_law_read_not_3_ap {rec_law_read_not rec_law_read_and rec_law_read_or : FF} {S : Ms} : t_law_read_not_3 rec_law_read_not rec_law_read_and rec_law_read_or S = (sSeq (sIf (bOf (eOp gEq (eOpL gIx 0 (eVar 1)) (eC (.str "not")))) (sSeq (sAsg (eFn 3 rec_law_read_not (aCons (eVar 0) (aCons (eOp gAdd (eVar 1) (eC (.int 1))) (aCons (eOp gAdd (eVar 2) (eC (.int 1))) aNil)))) (gNm 3)) (sSeq (sIf (bOf (eOp gIsN (eVar 3) (eC .non))) (sRet (eC .non)) sNil) (sRet (eNew (cLst (aCons (eTup (aCons (eC (.str "not")) (aCons (eOpL gIx 3 (eC (.int 0))) aNil))) (aCons (eOpL gIx 3 (eC (.int 1))) aNil))))))) sNil) (t_law_read_not_2 rec_law_read_not rec_law_read_and rec_law_read_or)) S := rfl
def t_law_read_not_4 (rec_law_read_not rec_law_read_and rec_law_read_or : FF) : SF := (sSeq (sIf (bOf (eOp gEq (eVar 2) (eC (.int 8)))) (sRet (eC .non)) sNil) (t_law_read_not_3 rec_law_read_not rec_law_read_and rec_law_read_or))
@[simp] theorem t_law_read_not_4_ap {rec_law_read_not rec_law_read_and rec_law_read_or : FF} {S : Ms} : t_law_read_not_4 rec_law_read_not rec_law_read_and rec_law_read_or S = (sSeq (sIf (bOf (eOp gEq (eVar 2) (eC (.int 8)))) (sRet (eC .non)) sNil) (t_law_read_not_3 rec_law_read_not rec_law_read_and rec_law_read_or)) S := rfl
def b_law_read_not (rec_law_read_not rec_law_read_and rec_law_read_or : FF) : SF := (sSeq (sIf (bOr (bOf (eOp gGe (eVar 1) (eCallV gLen 0))) (bOf (eOp (gIn3 true) (eOpL gIx 0 (eVar 1)) (eNew (cLst (aCons (eC (.str "not")) (aCons (eC (.str "(")) aNil))))))) (sRet (eFn 2 f_law_read_cmp (aCons (eVar 0) (aCons (eVar 1) aNil)))) sNil) (t_law_read_not_4 rec_law_read_not rec_law_read_and rec_law_read_or))
def t_law_read_and_1 (rec_law_read_not rec_law_read_and rec_law_read_or : FF) : SF := (sSeq (sIf (bOr (bOf (eOp gGe (eVar 1) (eCallV gLen 0))) (bOf (eOp gNe (eOpL gIx 0 (eVar 1)) (eC (.str "and"))))) sBk sNil) (sAsg (eOp gAdd (eVar 1) (eC (.int 1))) (gNm 1)))
@[simp] theorem t_law_read_and_1_ap {rec_law_read_not rec_law_read_and rec_law_read_or : FF} {S : Ms} : t_law_read_and_1 rec_law_read_not rec_law_read_and rec_law_read_or S = (sSeq (sIf (bOr (bOf (eOp gGe (eVar 1) (eCallV gLen 0))) (bOf (eOp gNe (eOpL gIx 0 (eVar 1)) (eC (.str "and"))))) sBk sNil) (sAsg (eOp gAdd (eVar 1) (eC (.int 1))) (gNm 1))) S := rfl
def t_law_read_and_2 (rec_law_read_not rec_law_read_and rec_law_read_or : FF) : SF := (sSeq (sAsg (eOpL gIx 5 (eC (.int 1))) (gNm 1)) (t_law_read_and_1 rec_law_read_not rec_law_read_and rec_law_read_or))
@[simp] theorem t_law_read_and_2_ap {rec_law_read_not rec_law_read_and rec_law_read_or : FF} {S : Ms} : t_law_read_and_2 rec_law_read_not rec_law_read_and rec_law_read_or S = (sSeq (sAsg (eOpL gIx 5 (eC (.int 1))) (gNm 1)) (t_law_read_and_1 rec_law_read_not rec_law_read_and rec_law_read_or)) S := rfl
def t_law_read_and_3 (rec_law_read_not rec_law_read_and rec_law_read_or : FF) : SF := (sSeq (sExpr (eApp 3 (eOpL gIx 5 (eC (.int 0))))) (t_law_read_and_2 rec_law_read_not rec_law_read_and rec_law_read_or))
@[simp] theorem t_law_read_and_3_ap {rec_law_read_not rec_law_read_and rec_law_read_or : FF} {S : Ms} : t_law_read_and_3 rec_law_read_not rec_law_read_and rec_law_read_or S = (sSeq (sExpr (eApp 3 (eOpL gIx 5 (eC (.int 0))))) (t_law_read_and_2 rec_law_read_not rec_law_read_and rec_law_read_or)) S := rfl
def t_law_read_and_4 (rec_law_read_not rec_law_read_and rec_law_read_or : FF) : SF := (sSeq (sIf (bOf (eOp gIsN (eVar 5) (eC .non))) (sRet (eC .non)) sNil) (t_law_read_and_3 rec_law_read_not rec_law_read_and rec_law_read_or))
@[simp] theorem t_law_read_and_4_ap {rec_law_read_not rec_law_read_and rec_law_read_or : FF} {S : Ms} : t_law_read_and_4 rec_law_read_not rec_law_read_and rec_law_read_or S = (sSeq (sIf (bOf (eOp gIsN (eVar 5) (eC .non))) (sRet (eC .non)) sNil) (t_law_read_and_3 rec_law_read_not rec_law_read_and rec_law_read_or)) S := rfl
def l_law_read_and_1 (rec_law_read_not rec_law_read_and rec_law_read_or : FF) : SF := (sSeq (sAsg (eFn 3 rec_law_read_not (aCons (eVar 0) (aCons (eVar 1) (aCons (eVar 2) aNil)))) (gNm 5)) (t_law_read_and_4 rec_law_read_not rec_law_read_and rec_law_read_or))
def t_law_read_and_5 (rec_law_read_not rec_law_read_and rec_law_read_or : FF) : SF := (sSeq (sIf (bOf (eOp gEq (eCallV gLen 3) (eC (.int 1)))) (sRet (eNew (cLst (aCons (eOpL gIx 3 (eC (.int 0))) (aCons (eVar 1) aNil))))) sNil) (sRet (eNew (cLst (aCons (eTup (aCons (eC (.str "and")) (aCons (eCallV gTuple 3) aNil))) (aCons (eVar 1) aNil))))))
@[simp] theorem t_law_read_and_5_ap {rec_law_read_not rec_law_read_and rec_law_read_or : FF} {S : Ms} : t_law_read_and_5 rec_law_read_not rec_law_read_and rec_law_read_or S = (sSeq (sIf (bOf (eOp gEq (eCallV gLen 3) (eC (.int 1)))) (sRet (eNew (cLst (aCons (eOpL gIx 3 (eC (.int 0))) (aCons (eVar 1) aNil))))) sNil) (sRet (eNew (cLst (aCons (eTup (aCons (eC (.str "and")) (aCons (eCallV gTuple 3) aNil))) (aCons (eVar 1) aNil)))))) S := rfl
def t_law_read_and_6 (rec_law_read_not rec_law_read_and rec_law_read_or : FF) : SF := (sSeq (sFor (iRg1 (eOp gAdd (eCallV gLen 0) (eC (.int 1)))) (gNm 4) (l_law_read_and_1 rec_law_read_not rec_law_read_and rec_law_read_or)) (t_law_read_and_5 rec_law_read_not rec_law_read_and rec_law_read_or))
@[simp] theorem t_law_read_and_6_ap {rec_law_read_not rec_law_read_and rec_law_read_or : FF} {S : Ms} : t_law_read_and_6 rec_law_read_not rec_law_read_and rec_law_read_or S = (sSeq (sFor (iRg1 (eOp gAdd (eCallV gLen 0) (eC (.int 1)))) (gNm 4) (l_law_read_and_1 rec_law_read_not rec_law_read_and rec_law_read_or)) (t_law_read_and_5 rec_law_read_not rec_law_read_and rec_law_read_or)) S := rfl
def b_law_read_and (rec_law_read_not rec_law_read_and rec_law_read_or : FF) : SF := (sSeq (sOwn 3 (cLst aNil)) (t_law_read_and_6 rec_law_read_not rec_law_read_and rec_law_read_or))
def t_law_read_or_1 (rec_law_read_not rec_law_read_and rec_law_read_or : FF) : SF := (sSeq (sIf (bOr (bOf (eOp gGe (eVar 1) (eCallV gLen 0))) (bOf (eOp gNe (eOpL gIx 0 (eVar 1)) (eC (.str "or"))))) sBk sNil) (sAsg (eOp gAdd (eVar 1) (eC (.int 1))) (gNm 1)))
@[simp] theorem t_law_read_or_1_ap {rec_law_read_not rec_law_read_and rec_law_read_or : FF} {S : Ms} : t_law_read_or_1 rec_law_read_not rec_law_read_and rec_law_read_or S = (sSeq (sIf (bOr (bOf (eOp gGe (eVar 1) (eCallV gLen 0))) (bOf (eOp gNe (eOpL gIx 0 (eVar 1)) (eC (.str "or"))))) sBk sNil) (sAsg (eOp gAdd (eVar 1) (eC (.int 1))) (gNm 1))) S := rfl
def t_law_read_or_2 (rec_law_read_not rec_law_read_and rec_law_read_or : FF) : SF := (sSeq (sAsg (eOpL gIx 5 (eC (.int 1))) (gNm 1)) (t_law_read_or_1 rec_law_read_not rec_law_read_and rec_law_read_or))
@[simp] theorem t_law_read_or_2_ap {rec_law_read_not rec_law_read_and rec_law_read_or : FF} {S : Ms} : t_law_read_or_2 rec_law_read_not rec_law_read_and rec_law_read_or S = (sSeq (sAsg (eOpL gIx 5 (eC (.int 1))) (gNm 1)) (t_law_read_or_1 rec_law_read_not rec_law_read_and rec_law_read_or)) S := rfl
def t_law_read_or_3 (rec_law_read_not rec_law_read_and rec_law_read_or : FF) : SF := (sSeq (sExpr (eApp 3 (eOpL gIx 5 (eC (.int 0))))) (t_law_read_or_2 rec_law_read_not rec_law_read_and rec_law_read_or))
@[simp] theorem t_law_read_or_3_ap {rec_law_read_not rec_law_read_and rec_law_read_or : FF} {S : Ms} : t_law_read_or_3 rec_law_read_not rec_law_read_and rec_law_read_or S = (sSeq (sExpr (eApp 3 (eOpL gIx 5 (eC (.int 0))))) (t_law_read_or_2 rec_law_read_not rec_law_read_and rec_law_read_or)) S := rfl
def t_law_read_or_4 (rec_law_read_not rec_law_read_and rec_law_read_or : FF) : SF := (sSeq (sIf (bOf (eOp gIsN (eVar 5) (eC .non))) (sRet (eC .non)) sNil) (t_law_read_or_3 rec_law_read_not rec_law_read_and rec_law_read_or))
@[simp] theorem t_law_read_or_4_ap {rec_law_read_not rec_law_read_and rec_law_read_or : FF} {S : Ms} : t_law_read_or_4 rec_law_read_not rec_law_read_and rec_law_read_or S = (sSeq (sIf (bOf (eOp gIsN (eVar 5) (eC .non))) (sRet (eC .non)) sNil) (t_law_read_or_3 rec_law_read_not rec_law_read_and rec_law_read_or)) S := rfl
def l_law_read_or_1 (rec_law_read_not rec_law_read_and rec_law_read_or : FF) : SF := (sSeq (sAsg (eFn 3 rec_law_read_and (aCons (eVar 0) (aCons (eVar 1) (aCons (eVar 2) aNil)))) (gNm 5)) (t_law_read_or_4 rec_law_read_not rec_law_read_and rec_law_read_or))
def t_law_read_or_5 (rec_law_read_not rec_law_read_and rec_law_read_or : FF) : SF := (sSeq (sIf (bOf (eOp gEq (eCallV gLen 3) (eC (.int 1)))) (sRet (eNew (cLst (aCons (eOpL gIx 3 (eC (.int 0))) (aCons (eVar 1) aNil))))) sNil) (sRet (eNew (cLst (aCons (eTup (aCons (eC (.str "or")) (aCons (eCallV gTuple 3) aNil))) (aCons (eVar 1) aNil))))))
@[simp] theorem t_law_read_or_5_ap {rec_law_read_not rec_law_read_and rec_law_read_or : FF} {S : Ms} : t_law_read_or_5 rec_law_read_not rec_law_read_and rec_law_read_or S = (sSeq (sIf (bOf (eOp gEq (eCallV gLen 3) (eC (.int 1)))) (sRet (eNew (cLst (aCons (eOpL gIx 3 (eC (.int 0))) (aCons (eVar 1) aNil))))) sNil) (sRet (eNew (cLst (aCons (eTup (aCons (eC (.str "or")) (aCons (eCallV gTuple 3) aNil))) (aCons (eVar 1) aNil)))))) S := rfl
def t_law_read_or_6 (rec_law_read_not rec_law_read_and rec_law_read_or : FF) : SF := (sSeq (sFor (iRg1 (eOp gAdd (eCallV gLen 0) (eC (.int 1)))) (gNm 4) (l_law_read_or_1 rec_law_read_not rec_law_read_and rec_law_read_or)) (t_law_read_or_5 rec_law_read_not rec_law_read_and rec_law_read_or))
@[simp] theorem t_law_read_or_6_ap {rec_law_read_not rec_law_read_and rec_law_read_or : FF} {S : Ms} : t_law_read_or_6 rec_law_read_not rec_law_read_and rec_law_read_or S = (sSeq (sFor (iRg1 (eOp gAdd (eCallV gLen 0) (eC (.int 1)))) (gNm 4) (l_law_read_or_1 rec_law_read_not rec_law_read_and rec_law_read_or)) (t_law_read_or_5 rec_law_read_not rec_law_read_and rec_law_read_or)) S := rfl
def b_law_read_or (rec_law_read_not rec_law_read_and rec_law_read_or : FF) : SF := (sSeq (sOwn 3 (cLst aNil)) (t_law_read_or_6 rec_law_read_not rec_law_read_and rec_law_read_or))
def g_law_read_not : Nat → FF × FF × FF
  | 0 => (fnM 4 (fun _ => none), fnM 6 (fun _ => none), fnM 6 (fun _ => none))
  | n + 1 => (fnM 4 (b_law_read_not ((g_law_read_not n).1) ((g_law_read_not n).2.1) ((g_law_read_not n).2.2)), fnM 6 (b_law_read_and ((g_law_read_not n).1) ((g_law_read_not n).2.1) ((g_law_read_not n).2.2)), fnM 6 (b_law_read_or ((g_law_read_not n).1) ((g_law_read_not n).2.1) ((g_law_read_not n).2.2)))
def f_law_read_not (n : Nat) : FF := (g_law_read_not n).1
def f_law_read_and (n : Nat) : FF := (g_law_read_not n).2.1
def f_law_read_or (n : Nat) : FF := (g_law_read_not n).2.2
theorem f_law_read_not_succ (n : Nat) : f_law_read_not (n + 1) = fnM 4 (b_law_read_not (f_law_read_not n) (f_law_read_and n) (f_law_read_or n)) := rfl
theorem f_law_read_and_succ (n : Nat) : f_law_read_and (n + 1) = fnM 6 (b_law_read_and (f_law_read_not n) (f_law_read_and n) (f_law_read_or n)) := rfl
theorem f_law_read_or_succ (n : Nat) : f_law_read_or (n + 1) = fnM 6 (b_law_read_or (f_law_read_not n) (f_law_read_and n) (f_law_read_or n)) := rfl
def b_law_read_condition : SF := (sSeq (sAsg (eFn 3 (f_law_read_or 48) (aCons (eVar 0) (aCons (eC (.int 0)) (aCons (eC (.int 0)) aNil)))) (gNm 1)) (sSeq (sIf (bOr (bOf (eOp gIsN (eVar 1) (eC .non))) (bOf (eOp gNe (eOpL gIx 1 (eC (.int 1))) (eCallV gLen 0)))) (sRet (eC .non)) sNil) (sRet (eOpL gIx 1 (eC (.int 0))))))
def f_law_read_condition : FF := fnM 2 b_law_read_condition
def l_law_1 : SF := (sSeq (sAsg (eFn 2 f_law_spoilt (aCons (eVar 1) (aCons (eVar 10) aNil))) (gNm 10)) (sSeq (sIf (bNot (bTru (eFn 2 (f_law_same 48) (aCons (eFn 1 f_read_condition (aCons (eFn 2 f_law_spaced (aCons (eVar 1) (aCons (eVar 10) aNil))) aNil)) (aCons (eFn 1 f_law_read_condition (aCons (eVar 10) aNil)) aNil))))) (sRet (eC (.bl false))) sNil) (sIf (bOf (eOp gEq (eCallV gLen 10) (eC (.int 0)))) (sRet (eC (.bl true))) sNil)))
def l_law_2 : SF := (sAsg (eTup (aCons (eC (.str "not")) (aCons (eVar 12) aNil))) (gNm 12))
def t_law_1 : SF := (sSeq (sIf (bOf (eOp gEq (eOpL gIx 2 (eC (.int 0))) (eC (.str "cmp")))) (sSeq (sAsg (eVar 12) (gNm 6)) (sSeq (sIf (bOf (eOp gGt (eVar 13) (eC (.int 8)))) (sAsg (eC .non) (gNm 6)) sNil) (sIf (bNot (bTru (eFn 2 (f_law_same 48) (aCons (eFn 1 f_read_condition (aCons (eOp gAdd (eOp gMul4 (eC (.str "not ")) (eVar 13)) (eVar 3)) aNil)) (aCons (eVar 6) aNil))))) (sRet (eC (.bl false))) sNil))) sNil) (sRet (eOp gIsN (eFn 1 f_read_condition (aCons (eC (.str "")) aNil)) (eC .non))))
def t_law_2 : SF := (sSeq (sFor (iRg1 (eVar 13)) (gNm 11) l_law_2) t_law_1)
def t_law_3 : SF := (sSeq (sAsg (eOp gAdd (eC (.int 4)) (eFn 2 f_law_take (aCons (eVar 1) (aCons (eC (.int 6)) aNil)))) (gNm 13)) t_law_2)
def t_law_4 : SF := (sSeq (sAsg (eVar 2) (gNm 12)) t_law_3)
def t_law_5 : SF := (sSeq (sFor (iRg1 (eC (.int 3))) (gNm 11) l_law_1) t_law_4)
def t_law_6 : SF := (sSeq (sAsg (eOpL gIx 7 (eC (.int 0))) (gNm 10)) t_law_5)
def t_law_7 : SF := (sSeq (sIf (bOf (eOp gNotN (eFn 1 f_read_condition (aCons (eOp gAdd (eOp gAdd (eSl3 (eVar 3) oNone (oSome (eVar 8))) (eVar 9)) (eSl3 (eVar 3) (oSome (eVar 8)) oNone)) aNil)) (eC .non))) (sRet (eC (.bl false))) sNil) t_law_6)
def t_law_8 : SF := (sSeq (sAsg (eOp gIx (eNew (cLst (aCons (eC (.str "A")) (aCons (eC (.str "_")) (aCons (eC (.str ".")) (aCons (eC (.str "\n")) (aCons (eC (.str "\t")) (aCons (eC (.str "*")) (aCons (eC (.str "{")) aNil))))))))) (eFn 2 f_law_take (aCons (eVar 1) (aCons (eC (.int 7)) aNil)))) (gNm 9)) t_law_7)
def t_law_9 : SF := (sSeq (sAsg (eFn 2 f_law_take (aCons (eVar 1) (aCons (eOp gAdd (eCallV gLen 3) (eC (.int 1))) aNil))) (gNm 8)) t_law_8)
def t_law_10 : SF := (sSeq (sIf (bNot (bTru (eFn 2 (f_law_same 48) (aCons (eFn 1 f_read_condition (aCons (eFn 2 f_law_spaced (aCons (eVar 1) (aCons (eOpL gIx 7 (eC (.int 0))) aNil))) aNil)) (aCons (eVar 6) aNil))))) (sRet (eC (.bl false))) sNil) t_law_9)
def t_law_11 : SF := (sSeq (sIf (bOf (eOp gGt (eOpL gIx 7 (eC (.int 1))) (eC (.int 8)))) (sAsg (eC .non) (gNm 6)) sNil) t_law_10)
def t_law_12 : SF := (sSeq (sAsg (eVar 2) (gNm 6)) t_law_11)
def t_law_13 : SF := (sSeq (sAsg (eFn 4 (f_law_dressed 48) (aCons (eVar 1) (aCons (eVar 2) (aCons (eFn 1 f_law_many (aCons (eVar 1) aNil)) (aCons (eC (.bl true)) aNil))))) (gNm 7)) t_law_12)
def t_law_14 : SF := (sSeq (sIf (bOr (bNot (bTru (eFn 2 (f_law_same 48) (aCons (eFn 1 f_read_condition (aCons (eVar 3) aNil)) (aCons (eVar 6) aNil))))) (bNot (bTru (eFn 2 (f_law_same 48) (aCons (eFn 1 f_read_condition (aCons (eFn 2 f_law_spaced (aCons (eVar 1) (aCons (eOpL gIx 5 (eC (.int 0))) aNil))) aNil)) (aCons (eVar 6) aNil)))))) (sRet (eC (.bl false))) sNil) t_law_13)
def t_law_15 : SF := (sSeq (sIf (bOf (eOp gGt (eOpL gIx 5 (eC (.int 1))) (eC (.int 8)))) (sAsg (eC .non) (gNm 6)) sNil) t_law_14)
def t_law_16 : SF := (sSeq (sAsg (eVar 2) (gNm 6)) t_law_15)
def t_law_17 : SF := (sSeq (sIf (bOr (bNot (bTru (eIsiC "str" (eVar 4)))) (bOf (eOp gNe (eVar 4) (eVar 3)))) (sRet (eC (.bl false))) sNil) t_law_16)
def t_law_18 : SF := (sSeq (sAsg (eFn 4 (f_law_dressed 48) (aCons (eVar 1) (aCons (eVar 2) (aCons (eC (.int 0)) (aCons (eC (.bl false)) aNil))))) (gNm 5)) t_law_17)
def t_law_19 : SF := (sSeq (sAsg (eFn 1 (f_write_condition 48) (aCons (eVar 2) aNil)) (gNm 4)) t_law_18)
def t_law_20 : SF := (sSeq (sAsg (eFn 1 (f_law_condition_text 48) (aCons (eVar 2) aNil)) (gNm 3)) t_law_19)
def t_law_21 : SF := (sSeq (sAsg (eFn 3 (f_law_tree 48) (aCons (eVar 1) (aCons (eOp gAdd (eC (.int 1)) (eFn 2 f_law_take (aCons (eVar 1) (aCons (eC (.int 5)) aNil)))) (aCons (eC (.int 8)) aNil)))) (gNm 2)) t_law_20)
def b_law : SF := (sSeq (sCell 1 (cLst (aCons (eFn 2 f_law_draws (aCons (eVar 0) (aCons (eC (.int 700)) aNil))) (aCons (eC (.int 0)) aNil)))) t_law_21)
def f_law : FF := fnM 14 b_law
end

end Lk03



namespace Lk03
open PySem L2 M
def I (ns : List Int) : List M.D := ns.map M.D.int
@[simp] theorem I_len (ns : List Int) : (I ns).length = ns.length := by simp [I]
theorem I_cons (n : Int) (ns : List Int) : I (n :: ns) = .int n :: I ns := rfl
theorem I_app (a b : List Int) : I (a ++ b) = I a ++ I b := by simp [I]
theorem atI_I {ns : List Int} {i : Int} (h0 : 0 ≤ i) (h : i < ns.length) : ∃ x, atI (I ns) i = some (.int x) ∧ ns[i.toNat]? = some x := by
  rw [atI_pos h0 (by simpa using h)]
  have hl : i.toNat < ns.length := by omega
  exact ⟨ns[i.toNat], by simp [I, hl], by simp [hl]⟩
theorem atI_In {ns : List Int} {i : Nat} {x : Int} (h : ns[i]? = some x) : atI (I ns) (i : Int) = some (.int x) := by
  have hl := (List.getElem?_eq_some_iff.mp h).1
  rw [atI_pos (Int.natCast_nonneg _) (by simpa using hl)]
  simp [I, h]
theorem set_I (vs : List Int) (k : Nat) (x : Int) : (I vs).set k (.int x) = I (vs.set k x) := by
  simp [I, List.map_set]
theorem iRg1_step {f : EF} {S S' : Ms} {n : Nat} (h : f S = some (.int (n : Int), S')) (hn : n ≤ 1000000) : iRg1 f S = some ((List.range n).map (fun j : Nat => M.D.int (j : Int)), S') := by
  rw [iRg1_ap, h]
  simp only [Option.bind_some]
  rw [if_pos (by omega), show ((n : Int)).toNat = n by omega]
  unfold rngD
  simp
theorem pow18 : gPow (.int 10) (.int 18) = some (.int 1000000000000000000) := by rw [gPow_int, if_pos (by decide)]; rfl
/-! the draws: any ints -/
theorem mix_ok (a b c x6 x7 : M.Slot) (acc : List Int) (k cell : Int) (m : List Cell) (hl : acc.length < 1000000) : ∃ v y7, t_law_draws_2 ⟨[a, b, c, .own (.lst (I acc)), .val (.int k), .val (.int cell), x6, x7], m⟩ = some (.nx, ⟨[a, b, c, .own (.lst (I (acc ++ [v]))), .val (.int k), .val (.int cell), x6, y7], m⟩) := by
  have h1 : ∀ x : Int, (-18446744073709551616 < x % 2147483647 ∧ x % 2147483647 < 18446744073709551616) := fun x => by omega
  have h2 : ∀ x : Int, (-18446744073709551616 < x % 2147483629 ∧ x % 2147483629 < 18446744073709551616) := fun x => by omega
  have e : ∀ v : Int, I (acc ++ [v]) = I acc ++ [.int v] := fun v => by simp [I]
  simp only [t_law_draws_2_ap, t_law_draws_1_ap]
  simp [h1, h2, hl, e]
theorem draws_step (ns rests acc : List Int) (k : Nat) (n : Int) (hr : rests.length = ns.length) (hl : acc.length < 1000000) (s5 s6 s7 : M.Slot) (m : List Cell) :
    ∃ (rests' acc' : List Int) (t5 t6 t7 : M.Slot), rests'.length = ns.length ∧ acc'.length = acc.length + 1 ∧
      (l_law_draws_1 ⟨[.val (.sc (I ns)), .val (.int n), .own (.lst (I rests)), .own (.lst (I acc)), .val (.int k), s5, s6, s7], m⟩ = some (.nx, ⟨[.val (.sc (I ns)), .val (.int n), .own (.lst (I rests')), .own (.lst (I acc')), .val (.int k), t5, t6, t7], m⟩) ∨
      l_law_draws_1 ⟨[.val (.sc (I ns)), .val (.int n), .own (.lst (I rests)), .own (.lst (I acc)), .val (.int k), s5, s6, s7], m⟩ = some (.ct, ⟨[.val (.sc (I ns)), .val (.int n), .own (.lst (I rests')), .own (.lst (I acc')), .val (.int k), t5, t6, t7], m⟩)) := by
  by_cases h : 0 < ns.length
  · have i0 : 0 ≤ (k : Int) % (ns.length : Int) := Int.emod_nonneg _ (by omega)
    have i1 : (k : Int) % (ns.length : Int) < ns.length := Int.emod_lt_of_pos _ (by omega)
    obtain ⟨x, hx, _⟩ := atI_I (ns := ns) i0 i1
    obtain ⟨y, hy, _⟩ := atI_I (ns := rests) i0 (by omega)
    have hix : ixN rests.length ((k : Int) % (ns.length : Int)) = some ((k : Int) % (ns.length : Int)).toNat := ixN_pos i0 (by omega)
    by_cases c : 1000000000000000000 ≤ x ∧ 0 < y
    · refine ⟨rests.set ((k : Int) % (ns.length : Int)).toNat (y / 1000003), acc ++ [y % 1000003], .val (.int x), .val (.int ((k : Int) % (ns.length : Int))), s7, by simp [hr], by simp, .inr ?_⟩
      have e : I (acc ++ [y % 1000003]) = I acc ++ [.int (y % 1000003)] := by simp [I]
      unfold l_law_draws_1
      simp only [sSeq_ap, t_law_draws_3_ap]
      generalize t_law_draws_2 = tl
      revert tl
      refine opq ?_
      intro tl
      simp [h, hx, hy, pow18, c, hl, hix, set_I, e]
    · obtain ⟨v, y7, em⟩ := mix_ok (.val (.sc (I ns))) (.val (.int n)) (.own (.lst (I rests))) (.val (.int ((k : Int) % (ns.length : Int)))) s7 acc k x m hl
      refine ⟨rests, acc ++ [v], .val (.int x), .val (.int ((k : Int) % (ns.length : Int))), y7, hr, by simp, .inl ?_⟩
      unfold l_law_draws_1
      rw [← em]
      simp only [sSeq_ap, t_law_draws_3_ap]
      generalize t_law_draws_2 = tl
      revert tl
      refine opq ?_
      intro tl
      by_cases c1 : 1000000000000000000 ≤ x
      · have c2 : ¬ 0 < y := fun z => c ⟨c1, z⟩
        simp [h, hx, hy, pow18, c1, c2]
      · simp [h, hx, pow18, c1]
  · obtain ⟨v, y7, em⟩ := mix_ok (.val (.sc (I ns))) (.val (.int n)) (.own (.lst (I rests))) s6 s7 acc k k m hl
    refine ⟨rests, acc ++ [v], .val (.int k), s6, y7, hr, by simp, .inl ?_⟩
    unfold l_law_draws_1
    rw [← em]
    simp only [sSeq_ap, t_law_draws_3_ap]
    generalize t_law_draws_2 = tl
    revert tl
    refine opq ?_
    intro tl
    simp [h]
theorem draws_ok (ns : List Int) (n : Nat) (hn : n ≤ 1000) (hl : ns.length ≤ 100) (m : List Cell) : ∃ ds, f_law_draws [.sc (I ns), .int n] m = some (.lst (I ds), m) := by
  have c1 : ∀ s2 s3 s4 s6 s7 : M.Slot, ∃ rests : List Int, rests.length = ns.length ∧ lcM (gNm 5) bYes c_law_draws_1 [5] (I ns) [] ⟨[.val (.sc (I ns)), .val (.int n), s2, s3, s4, .emp, s6, s7], m⟩ = some (I rests, ⟨[.val (.sc (I ns)), .val (.int n), s2, s3, s4, .emp, s6, s7], m⟩) := fun s2 s3 s4 s6 s7 => by
    refine ⟨ns.map fun x => if x < 0 then -x else x, by simp, ?_⟩
    conv => lhs; arg 5; rw [I]
    rw [lc_map M.D.int (fun x => .int (if x < 0 then -x else x)) ns (fun x _ => ?_) (by omega)]
    · simp [I]
    · unfold stepC c_law_draws_1
      simp [wipeR, restR]
  obtain ⟨rests, hr, e1⟩ := c1 .emp .emp .emp .emp .emp
  obtain ⟨S', e2, hS⟩ := forM_inv (g := gNm 4) (b := l_law_draws_1) (fun j : Nat => M.D.int (j : Int)) (fun rest S => ∃ (rests acc : List Int) (s4 s5 s6 s7 : M.Slot), rests.length = ns.length ∧ acc.length + rest.length ≤ 1000 ∧ S = ⟨[.val (.sc (I ns)), .val (.int n), .own (.lst (I rests)), .own (.lst (I acc)), s4, s5, s6, s7], m⟩) (fun x rest S hS => by
    obtain ⟨rests, acc, s4, s5, s6, s7, h1, h2, rfl⟩ := hS
    obtain ⟨rests', acc', t5, t6, t7, k1, k2, k3⟩ := draws_step ns rests acc x n h1 (by simp only [List.length_cons] at h2; omega) s5 s6 s7 m
    refine ⟨_, ⟨[.val (.sc (I ns)), .val (.int n), .own (.lst (I rests')), .own (.lst (I acc')), .val (.int x), t5, t6, t7], m⟩, rfl, k3, rests', acc', _, t5, t6, t7, k1, by simp only [List.length_cons] at h2; omega, rfl⟩) (List.range n) ⟨[.val (.sc (I ns)), .val (.int n), .own (.lst (I rests)), .own (.lst (I [])), .emp, .emp, .emp, .emp], m⟩ ⟨rests, [], _, _, _, _, hr, by simpa using hn, rfl⟩
  obtain ⟨rests', acc, s4, s5, s6, s7, h1, h2, rfl⟩ := hS
  refine ⟨acc, ?_⟩
  have hnil : I [] = [] := rfl
  rw [hnil] at e2
  have r1 : ∀ S : Ms, S.r[1]? = some (.val (.int n)) → iRg1 (eVar 1) S = some ((List.range n).map (fun j : Nat => M.D.int (j : Int)), S) := fun S hS => iRg1_step (by simp [hS]) (by omega)
  unfold f_law_draws b_law_draws
  simp only [fnM_ap]
  simp [-iRg1_ap, e1, r1, e2]
/-! the hand -/
def Hd (ds : List Int) (p : Int) : Cell := .lst [.lst (I ds), .int p]
theorem take_ok (ds : List Int) (p : Int) (hp : 0 ≤ p) (n : Int) (hn : 0 < n) (hn2 : n < 1000000000) (m : List Cell) : ∃ v, 0 ≤ v ∧ v < n ∧ f_law_take [.ref 0, .int n] (Hd ds p :: m) = some (.int v, Hd ds (p + 1) :: m) := by
  have hix : ixN 2 1 = some 1 := rfl
  by_cases h : (ds.length : Int) ≤ p
  · refine ⟨0, by omega, hn, ?_⟩
    unfold f_law_take b_law_take Hd
    simp [fnM_ap, h, hix]
  · obtain ⟨x, hx, _⟩ := atI_I (ns := ds) hp (by omega)
    refine ⟨x / 7 % n, Int.emod_nonneg _ (by omega), Int.emod_lt_of_pos _ hn, ?_⟩
    unfold f_law_take b_law_take Hd
    simp [fnM_ap, h, hix, hx, hn]
end Lk03



namespace Lk03
open PySem L2 M
/-! texts as lists of signs -/
def S (l : List Nat) : Str := ⟨l.toArray⟩
@[simp] theorem S_len (l : List Nat) : (S l).length = l.length := by simp [S, Str.length]
@[simp] theorem S_cps (l : List Nat) : (S l).cps.toList = l := rfl
theorem S_app (a b : List Nat) : S a ++ S b = S (a ++ b) := TL.ext_tl (by rw [TL.tl_append]; rfl)
theorem S_inj {a b : List Nat} : S a = S b ↔ a = b := ⟨fun h => by have := congrArg (fun z : Str => z.cps.toList) h; exact this, fun h => by rw [h]⟩
theorem ex_S (z : Str) : ∃ l, z = S l := ⟨z.cps.toList, (TL.mk_tl z).symm⟩
def Ok (l : List Nat) : Prop := ∀ c ∈ l, c < 0x110000
theorem Ok.so {l : List Nat} (h : Ok l) : PyData.strOk (S l) = true := by
  unfold PyData.strOk S
  rw [Array.all_eq_true_iff_forall_mem]
  intro c hc
  simpa using h c (by simpa using hc)
theorem Ok.sub {l k : List Nat} (h : Ok l) (hs : ∀ c ∈ k, c ∈ l) : Ok k := fun c hc => h c (hs c hc)
theorem Ok.cut {l : List Nat} (h : Ok l) (a b : Nat) : Ok ((l.drop a).take b) := h.sub fun c hc => List.mem_of_mem_drop (List.mem_of_mem_take hc)
theorem Ok.app {l k : List Nat} (h : Ok l) (h2 : Ok k) : Ok (l ++ k) := fun c hc => (List.mem_append.mp hc).elim (h c) (h2 c)
theorem atl {α : Type} {l : List α} {i : Nat} {c : α} (h : l[i]? = some c) : atI l (i : Int) = some c := by
  rw [atI_pos (Int.natCast_nonneg _) (by have := (List.getElem?_eq_some_iff.mp h).1; omega)]
  simpa using h
theorem ixS {l : List Nat} (h : l.length ≤ 1000000) {i : Nat} {c : Nat} (hc : l[i]? = some c) : gIx (.str (S l)) (.int (i : Int)) = some (.str (S [c])) := by
  rw [gIx_str, if_pos (by simpa using h)]
  show (atI l (i : Int)).bind _ = _
  rw [atl hc]; rfl
theorem lenS {l : List Nat} (h : l.length ≤ 1000000) : gLen (.str (S l)) = some (.int (l.length : Int)) := by
  rw [gLen_str, if_pos (by simpa using h), S_len]
theorem slS {l : List Nat} (h : l.length ≤ 1000000) {a : Nat} (b : Nat) (ha : a ≤ l.length) : gSl3 (.str (S l)) (some (a : Int)) (some (b : Int)) = some (.str (S ((l.drop a).take (b - a)))) := by
  have e : gSl3 (.str (S l)) (some (a : Int)) (some (b : Int)) = if (S l).length ≤ LIM then some (.str (cutS (S l) (some (a : Int)) (some (b : Int)))) else none := rfl
  rw [e, if_pos (by simpa using h)]
  unfold cutS
  rw [HT.sIx_nat, HT.sIx_nat, S_cps, S_len, Nat.min_eq_left ha]
  congr 2
  show S _ = S _
  rw [S_inj]
  by_cases hb : b ≤ l.length
  · rw [Nat.min_eq_left hb]
  · rw [Nat.min_eq_right (by omega), List.take_of_length_le (by simp), List.take_of_length_le (by simp; omega)]
theorem inS (neg : Bool) (c : Nat) (l : List Nat) : gIn3 neg (.str (S [c])) (.str (S l)) = some (.bl (xor neg (decide (c ∈ l)))) := gIn3_sign
theorem eqS {a b : List Nat} (ha : Ok a) (hb : Ok b) : eqD (.str (S a)) (.str (S b)) = some (decide (a = b)) := by
  rw [eqD_str ha.so hb.so]
  simp [S_inj]
theorem eqF_S {a b : List Nat} : eqF (.str (S a)) (.str (S b)) = decide (a = b) := by
  unfold eqF
  simp [toPy, PyData.eqv, Bool.beq_eq_decide_eq, S_inj]
theorem inStrs_t (a : List Nat) (zs : List (List Nat)) : gIn3 false (.str (S a)) (.tup (zs.map fun l => .str (S l))) = some (.bl (decide (a ∈ zs))) := by
  rw [gIn3_tup]
  unfold gIn gInL gInT
  have h1 : (zs.map fun l => M.D.str (S l)).all flatD = true := by simp [flatD]
  simp only [Option.none_or]
  rw [if_pos ⟨rfl, h1⟩, List.any_map]
  simp only [Function.comp_def, eqF_S, Bool.false_eq_true, if_false]
  congr 2
  rw [List.any_eq, decide_eq_decide]
  simp
theorem shaped_strs : ∀ {zs : List (List Nat)}, (∀ z ∈ zs, Ok z) → ∃ ps, toPys (zs.map fun l => M.D.str (S l)) = some ps ∧ PyData.canLayAll0 ps = true ∧ PyData.depthAll ps ≤ 1 ∧ ps = zs.map fun l => PyData.str (S l)
  | [], _ => ⟨[], rfl, rfl, by simp [PyData.depthAll], rfl⟩
  | z :: zs, h => by
    obtain ⟨ps, h1, h2, h3, h4⟩ := shaped_strs fun x hx => h x (List.mem_cons_of_mem _ hx)
    refine ⟨.str (S z) :: ps, by simp only [List.map_cons, toPys, toPy, h1]; rfl, by simp [PyData.canLayAll0, PyData.canLay0, h2, (h z (by simp)).so], ?_, by simp [h4]⟩
    simp only [PyData.depthAll, PyData.depth]
    omega
theorem inStrs_l {a : List Nat} (ha : Ok a) {zs : List (List Nat)} (hz : ∀ z ∈ zs, Ok z) : gIn3 false (.str (S a)) (.lst (zs.map fun l => .str (S l))) = some (.bl (decide (a ∈ zs))) := by
  obtain ⟨ps, h1, h2, h3, h4⟩ := shaped_strs hz
  rw [gIn3_lst]
  unfold gIn gInL gInT
  have s1 : SeqAt.shaped (.str (S a)) = true := shaped_str ha.so
  have s2 : SeqAt.shaped (.list ps) = true := by
    unfold SeqAt.shaped
    rw [show PyData.canLay0 (.list ps) = true by simpa [PyData.canLay0] using h2, decide_eq_true (by simp only [PyData.depth]; omega)]; rfl
  simp only [toPy, h1, Option.bind_some]
  rw [if_pos ⟨s1, s2⟩, h4]
  simp only [Option.some_or, Bool.false_eq_true, if_false, List.any_map, Function.comp_def, PyData.eqv, Bool.beq_eq_decide_eq, S_inj]
  congr 2
  rw [List.any_eq, decide_eq_decide]
  simp
/-! the signs -/
def LL : List Nat := [97, 98, 99, 100, 101, 102, 103, 104, 105, 106, 107, 108, 109, 110, 111, 112, 113, 114, 115, 116, 117, 118, 119, 120, 121, 122]
def DD : List Nat := [48, 49, 50, 51, 52, 53, 54, 55, 56, 57]
def HH : List Nat := [60, 62, 61, 43, 45, 40, 41, 91, 93, 44, 58]
def GG : List (List Nat) := [[60, 61], [62, 61], [61, 61], [33, 61]]
theorem lit_L : ("abcdefghijklmnopqrstuvwxyz" : Str) = S LL := by decide +kernel
theorem lit_D : ("0123456789" : Str) = S DD := by decide +kernel
theorem lit_H : ("<>=+-()[],:" : Str) = S HH := by decide +kernel
theorem lit_H2 : ("<>=+-()[],: " : Str) = S (HH ++ [32]) := by decide +kernel
theorem lit_sp : (" " : Str) = S [32] := by decide +kernel
theorem lit_G : (["<=", ">=", "==", "!="] : List Str) = GG.map S := by decide +kernel
theorem ok_sp : Ok [32] := by intro c hc; simp at hc; omega
theorem ok_GG : ∀ z ∈ GG, Ok z := by unfold Ok; decide +kernel
def run (P l : List Nat) : Nat := (l.takeWhile (decide <| · ∈ P)).length
theorem run_le (P l : List Nat) : run P l ≤ l.length := by
  unfold run
  exact (List.takeWhile_sublist _).length_le
/-! run_end -/
theorem run_loop {l P : List Nat} (hl : l.length ≤ 999990) (x1 : M.Slot) (m : List Cell) : ∀ (fuel e : Nat), e ≤ l.length → l.length - e < fuel →
    whileM (bAnd (bOf (eOp gLt (eVar 3) (eCallV gLen 0))) (bOf (eOpR (gIn3 false) (eOpL gIx 0 (eVar 3)) 2))) (sAug 3 (fun i j => i + j) (eC (.int 1))) fuel ⟨[.val (.str (S l)), x1, .val (.str (S P)), .val (.int (e : Int))], m⟩ = some (.nx, ⟨[.val (.str (S l)), x1, .val (.str (S P)), .val (.int ((e + run P (l.drop e) : Nat) : Int))], m⟩) := by
  intro fuel
  induction fuel with
  | zero => intro e _ h; exact absurd h (Nat.not_lt_zero _)
  | succ fuel ih =>
    intro e he hf
    unfold whileM
    by_cases c : e < l.length
    · have hc : l[e]? = some l[e] := by simp [c]
      have hx := ixS (by omega : l.length ≤ 1000000) hc
      have hdr : l.drop e = l[e] :: l.drop (e + 1) := List.drop_eq_getElem_cons c
      by_cases q : l[e] ∈ P
      · have e1 := ih (e + 1) (by omega) (by omega)
        rw [hdr, show run P (l[e] :: l.drop (e + 1)) = run P (l.drop (e + 1)) + 1 by unfold run; rw [List.takeWhile_cons_of_pos (by simpa using q)]; rfl]
        rw [show e + (run P (l.drop (e + 1)) + 1) = e + 1 + run P (l.drop (e + 1)) by omega, ← e1]
        generalize whileM (bAnd (bOf (eOp gLt (eVar 3) (eCallV gLen 0))) (bOf (eOpR (gIn3 false) (eOpL gIx 0 (eVar 3)) 2))) (sAug 3 (fun i j => i + j) (eC (.int 1))) fuel = K
        simp [sAug, lenS (by omega : l.length ≤ 1000000), c, hx, inS, q]
      · rw [hdr, show run P (l[e] :: l.drop (e + 1)) = 0 by unfold run; rw [List.takeWhile_cons_of_neg (by simpa using q)]; rfl]
        simp [lenS (by omega : l.length ≤ 1000000), c, hx, inS, q]
    · have h0 : l.drop e = [] := List.drop_of_length_le (by omega)
      rw [h0, show run P [] = 0 from rfl]
      simp [lenS (by omega : l.length ≤ 1000000), c]
theorem run_end_ok {l P : List Nat} (hl : l.length ≤ 999990) (s : Nat) (hs : s ≤ l.length) (m : List Cell) : f_run_end [.str (S l), .int (s : Int), .str (S P)] m = some (.int ((s + run P (l.drop s) : Nat) : Int), m) := by
  have e := run_loop (P := P) hl (.val (.int (s : Int))) m WMAX s hs (by unfold WMAX; omega)
  unfold f_run_end b_run_end l_run_end_1
  simp [fnM_ap, sWhile_ap, e]
/-! word_end -/
def tok (l : List Nat) : Option Nat := match l with
  | [] => none
  | c :: r => if c ∈ LL then some (run LL (c :: r)) else if c ∈ DD then some (run DD (c :: r)) else if (c :: r).take 2 ∈ GG then some 2 else if c ∈ HH then some 1 else none
theorem tok_cons (c : Nat) (r : List Nat) : tok (c :: r) = if c ∈ LL then some (run LL (c :: r)) else if c ∈ DD then some (run DD (c :: r)) else if (c :: r).take 2 ∈ GG then some 2 else if c ∈ HH then some 1 else none := rfl
theorem inG_t (w : List Nat) : gIn3 false (.str (S w)) (.tup [.str "<=", .str ">=", .str "==", .str "!="]) = some (.bl (decide (w ∈ GG))) := by
  have e : ([.str "<=", .str ">=", .str "==", .str "!="] : List M.D) = GG.map fun l => .str (S l) := by
    show List.map M.D.str ["<=", ">=", "==", "!="] = _
    rw [lit_G, List.map_map]; rfl
  rw [e]; exact inStrs_t w GG
theorem inG_l {w : List Nat} (hw : Ok w) : gIn3 false (.str (S w)) (.lst [.str "<=", .str ">=", .str "==", .str "!="]) = some (.bl (decide (w ∈ GG))) := by
  have e : ([.str "<=", .str ">=", .str "==", .str "!="] : List M.D) = GG.map fun l => .str (S l) := by
    show List.map M.D.str ["<=", ">=", "==", "!="] = _
    rw [lit_G, List.map_map]; rfl
  rw [e]; exact inStrs_l hw ok_GG
theorem word_end_ok {l : List Nat} (hl : l.length ≤ 999990) (s : Nat) (hs : s < l.length) (m : List Cell) : f_word_end [.str (S l), .int (s : Int)] m = some (.int ((s + (tok (l.drop s)).getD 0 : Nat) : Int), m) := by
  have hl' : l.length ≤ 1000000 := by omega
  have hc : l[s]? = some l[s] := by simp [hs]
  have hx := ixS hl' hc
  have hdr : l.drop s = l[s] :: l.drop (s + 1) := List.drop_eq_getElem_cons hs
  have hsl : gSl3 (.str (S l)) (some (s : Int)) (some ((s : Int) + 2)) = some (.str (S ((l.drop s).take 2))) := by
    have := slS hl' (s + 2) (Nat.le_of_lt hs)
    rw [show s + 2 - s = 2 by omega] at this
    exact this
  have r1 := run_end_ok (P := LL) hl s (Nat.le_of_lt hs) m
  have r2 := run_end_ok (P := DD) hl s (Nat.le_of_lt hs) m
  have h2 := inG_t ((l.drop s).take 2)
  rw [hdr] at hsl r1 r2 h2 ⊢
  rw [tok_cons]
  generalize (l[s] :: l.drop (s + 1)).take 2 = w2 at hsl h2 ⊢
  generalize l[s] = c at hx r1 r2 ⊢
  unfold f_word_end b_word_end
  by_cases c1 : c ∈ LL
  · simp [fnM_ap, hx, lit_L, inS, c1, r1]
  · by_cases c2 : c ∈ DD
    · simp [fnM_ap, hx, lit_L, lit_D, inS, c1, c2, r2]
    · by_cases c3 : w2 ∈ GG
      · simp [fnM_ap, hx, lit_L, lit_D, inS, c1, c2, hsl, h2, c3]
      · by_cases c4 : c ∈ HH
        · simp [fnM_ap, hx, lit_L, lit_D, lit_H, inS, c1, c2, hsl, h2, c3, c4]
        · simp [fnM_ap, hx, lit_L, lit_D, lit_H, inS, c1, c2, hsl, h2, c3, c4]
end Lk03



namespace Lk03
open PySem L2 M
/-! the words of a text -/
inductive Gw : List Nat → Option (List (List Nat)) → Prop
  | nil : Gw [] (some [])
  | sp {r : List Nat} {o : Option (List (List Nat))} : Gw r o → Gw (32 :: r) o
  | bad {c : Nat} {r : List Nat} : c ≠ 32 → tok (c :: r) = none → Gw (c :: r) none
  | wd {c : Nat} {r : List Nat} {n : Nat} {o : Option (List (List Nat))} : c ≠ 32 → tok (c :: r) = some n → 0 < n → n ≤ (c :: r).length → Gw ((c :: r).drop n) o → Gw (c :: r) (o.map ((c :: r).take n :: ·))
theorem run_cons {P : List Nat} {c : Nat} (r : List Nat) (h : c ∈ P) : run P (c :: r) = run P r + 1 := by
  unfold run; rw [List.takeWhile_cons_of_pos (by simpa using h)]; rfl
theorem run_not {P : List Nat} {c : Nat} (r : List Nat) (h : c ∉ P) : run P (c :: r) = 0 := by
  unfold run; rw [List.takeWhile_cons_of_neg (by simpa using h)]; rfl
theorem GG_len : ∀ w ∈ GG, w.length = 2 := by decide
theorem tok_pos {c n : Nat} {r : List Nat} (h : tok (c :: r) = some n) : 0 < n ∧ n ≤ (c :: r).length := by
  rw [tok_cons] at h
  split at h
  · rename_i q
    cases h
    exact ⟨by rw [run_cons r q]; omega, run_le _ _⟩
  · split at h
    · rename_i q
      cases h
      exact ⟨by rw [run_cons r q]; omega, run_le _ _⟩
    · split at h
      · rename_i q
        cases h
        have := GG_len _ q
        rw [List.length_take] at this
        exact ⟨by omega, by omega⟩
      · split at h
        · cases h; exact ⟨by omega, by simp⟩
        · cases h
theorem gw_all : ∀ (n : Nat) (l : List Nat), l.length ≤ n → ∃ o, Gw l o
  | 0, l, h => by
    have : l = [] := List.length_eq_zero_iff.mp (by omega)
    subst this; exact ⟨_, .nil⟩
  | n + 1, [], _ => ⟨_, .nil⟩
  | n + 1, c :: r, h => by
    simp only [List.length_cons] at h
    by_cases hc : c = 32
    · subst hc
      obtain ⟨o, ho⟩ := gw_all n r (by omega)
      exact ⟨o, .sp ho⟩
    · cases ht : tok (c :: r) with
      | none => exact ⟨none, .bad hc ht⟩
      | some k =>
        obtain ⟨h1, h2⟩ := tok_pos ht
        obtain ⟨o, ho⟩ := gw_all n ((c :: r).drop k) (by simp only [List.length_drop, List.length_cons]; omega)
        exact ⟨_, .wd hc ht h1 h2 ho⟩
theorem gw_skip {k : List Nat} {o : Option (List (List Nat))} (h : Gw k o) : Gw (k.drop (run [32] k)) o := by
  induction h with
  | nil => exact .nil
  | sp _ ih => rw [run_cons _ (by simp)]; simpa using ih
  | bad hc ht => rw [run_not _ (by simpa using hc)]; exact .bad hc ht
  | wd hc ht h1 h2 h3 _ => rw [run_not _ (by simpa using hc)]; exact .wd hc ht h1 h2 h3
theorem head_skip : ∀ k : List Nat, (k.drop (run [32] k)).head? ≠ some 32
  | [] => by simp
  | c :: r => by
    by_cases h : c = 32
    · subst h
      rw [run_cons _ (by simp)]
      simpa using head_skip r
    · rw [run_not _ (by simpa using h)]
      simpa using h
theorem gw_front {k : List Nat} {o : Option (List (List Nat))} (h : Gw k o) : ∀ n, Gw (List.replicate n 32 ++ k) o
  | 0 => h
  | n + 1 => by rw [List.replicate_succ, List.cons_append]; exact .sp (gw_front h n)
theorem run_app {P : List Nat} (h : 32 ∉ P) : ∀ k : List Nat, run P (k ++ [32, 32]) = run P k
  | [] => run_not _ h
  | c :: r => by
    by_cases q : c ∈ P
    · rw [List.cons_append, run_cons _ q, run_cons _ q, run_app h r]
    · rw [List.cons_append, run_not _ q, run_not _ q]
theorem tok_app (c : Nat) (r : List Nat) : tok (c :: r ++ [32, 32]) = tok (c :: r) := by
  rw [List.cons_append, tok_cons, tok_cons, ← List.cons_append, run_app (by decide), run_app (by decide)]
  cases r with
  | nil =>
    have e1 : ([c] ++ [32, 32]).take 2 ∉ GG := by simp [GG]
    have e2 : [c].take 2 ∉ GG := by simp [GG]
    rw [if_neg e1, if_neg e2]
  | cons d r => rfl
theorem gw_back {k : List Nat} {o : Option (List (List Nat))} (h : Gw k o) : Gw (k ++ [32, 32]) o := by
  induction h with
  | nil => exact .sp (.sp .nil)
  | sp _ ih => exact .sp ih
  | bad hc ht => exact .bad hc (by have := tok_app _ _ ▸ ht; exact this)
  | @wd c r n o hc ht h1 h2 h3 ih =>
    have e1 : (c :: r ++ [32, 32]).take n = (c :: r).take n := List.take_append_of_le_length h2
    have e2 : (c :: r ++ [32, 32]).drop n = (c :: r).drop n ++ [32, 32] := List.drop_append_of_le_length h2
    rw [← e1]
    rw [← e2] at ih
    exact .wd hc (show tok (c :: r ++ [32, 32]) = _ from (tok_app c r).trans ht) h1 (by show n ≤ (c :: r ++ [32, 32]).length; rw [List.length_append]; omega) ih
def encS (w : List Nat) : M.D := .str (S w)
def flW : Option (List (List Nat)) → Fl
  | none => .rt .non
  | some _ => .nx
/-! split_row -/
section
variable {l : List Nat} (hl : l.length ≤ 999990) (m : List Cell)
include hl
theorem s_end (acc : List M.D) (x3 : M.Slot) (fuel : Nat) {s : Nat} (h : s = l.length) : whileM (bOf (eOp gLt (eVar 2) (eCallV gLen 0))) l_split_row_1 (fuel + 1) ⟨[.val (.str (S l)), .own (.lst acc), .val (.int (s : Int)), x3], m⟩ = some (.nx, ⟨[.val (.str (S l)), .own (.lst acc), .val (.int (s : Int)), x3], m⟩) := by
  unfold whileM
  simp [lenS (by omega : l.length ≤ 1000000), h]
theorem s_bad (acc : List M.D) (x3 : M.Slot) (fuel : Nat) {s : Nat} {c : Nat} {r : List Nat} (h : l.drop s = c :: r) (ht : tok (c :: r) = none) : whileM (bOf (eOp gLt (eVar 2) (eCallV gLen 0))) l_split_row_1 (fuel + 1) ⟨[.val (.str (S l)), .own (.lst acc), .val (.int (s : Int)), x3], m⟩ = some (.rt .non, ⟨[.val (.str (S l)), .own (.lst acc), .val (.int (s : Int)), .val (.int (s : Int))], m⟩) := by
  have hlt : s < l.length := by
    apply Nat.lt_of_not_le
    intro z
    rw [List.drop_of_length_le z] at h
    cases h
  have e := word_end_ok hl s hlt m
  rw [h, ht, show s + Option.getD none 0 = s from rfl] at e
  unfold whileM
  generalize whileM (bOf (eOp gLt (eVar 2) (eCallV gLen 0))) l_split_row_1 fuel = K
  unfold l_split_row_1
  simp [lenS (by omega : l.length ≤ 1000000), hlt, e]
theorem s_wd (acc : List M.D) (ha : acc.length < 1000000) (x3 : M.Slot) (fuel : Nat) {s n : Nat} {c : Nat} {r : List Nat} (h : l.drop s = c :: r) (ht : tok (c :: r) = some n) :
    whileM (bOf (eOp gLt (eVar 2) (eCallV gLen 0))) l_split_row_1 (fuel + 1) ⟨[.val (.str (S l)), .own (.lst acc), .val (.int (s : Int)), x3], m⟩ =
    whileM (bOf (eOp gLt (eVar 2) (eCallV gLen 0))) l_split_row_1 fuel ⟨[.val (.str (S l)), .own (.lst (acc ++ [encS ((c :: r).take n)])), .val (.int ((s + n + run [32] (l.drop (s + n)) : Nat) : Int)), .val (.int ((s + n : Nat) : Int))], m⟩ := by
  have hlt : s < l.length := by
    apply Nat.lt_of_not_le
    intro z
    rw [List.drop_of_length_le z] at h
    cases h
  obtain ⟨hn, hn2⟩ := tok_pos ht
  have hlen := congrArg List.length h
  rw [List.length_drop] at hlen
  have e := word_end_ok hl s hlt m
  rw [h, ht, show s + Option.getD (some n) 0 = s + n from rfl] at e
  have e2 := run_end_ok (P := [32]) hl (s + n) (by omega) m
  have hs := slS (by omega : l.length ≤ 1000000) (s + n) (Nat.le_of_lt hlt)
  rw [show s + n - s = n by omega, h] at hs
  conv => lhs; unfold whileM
  generalize whileM (bOf (eOp gLt (eVar 2) (eCallV gLen 0))) l_split_row_1 fuel = K
  generalize s + n + run [32] (l.drop (s + n)) = z at e2 ⊢
  unfold encS
  generalize (c :: r).take n = w at hs ⊢
  have hne : ¬ (((s + n : Nat) : Int) = (s : Int)) := by omega
  generalize ((s + n : Nat) : Int) = q at e e2 hs hne ⊢
  unfold l_split_row_1
  simp [lenS (by omega : l.length ≤ 1000000), hlt, e, hne, hs, lit_sp, e2, ha]
theorem split_loop {o : Option (List (List Nat))} : ∀ (fuel : Nat) (s : Nat) (acc : List M.D) (x3 : M.Slot) {o : Option (List (List Nat))}, Gw (l.drop s) o → (l.drop s).head? ≠ some 32 → s ≤ l.length → l.length - s < fuel → acc.length + (l.length - s) ≤ 999999 →
    ∃ acc' y2 y3, (∀ ws, o = some ws → acc' = acc ++ ws.map encS) ∧ whileM (bOf (eOp gLt (eVar 2) (eCallV gLen 0))) l_split_row_1 fuel ⟨[.val (.str (S l)), .own (.lst acc), .val (.int (s : Int)), x3], m⟩ = some (flW o, ⟨[.val (.str (S l)), .own (.lst acc'), y2, y3], m⟩) := by
  intro fuel
  induction fuel with
  | zero => intro s acc x3 o _ _ _ h; exact absurd h (Nat.not_lt_zero _)
  | succ fuel ih =>
    intro s acc x3 o hg hh hs hf ha
    generalize hk : l.drop s = k at hg hh
    have hlen := congrArg List.length hk
    rw [List.length_drop] at hlen
    cases hg with
    | nil =>
      simp at hlen
      refine ⟨acc, .val (.int (s : Int)), x3, (fun ws e => by cases e; simp), ?_⟩
      exact s_end hl m acc x3 fuel (by omega)
    | sp => simp at hh
    | @bad c r hc ht =>
      exact ⟨acc, .val (.int (s : Int)), .val (.int (s : Int)), (fun ws e => by cases e), s_bad hl m acc x3 fuel hk ht⟩
    | @wd c r n o hc ht hp hle hg =>
      simp only [List.length_cons] at hlen hle
      have hd : l.drop (s + n) = (c :: r).drop n := by rw [← hk, List.drop_drop]
      have hg2 := gw_skip hg
      have hh2 := head_skip ((c :: r).drop n)
      have hr := run_le [32] (l.drop (s + n))
      rw [List.length_drop] at hr
      rw [← hd, List.drop_drop] at hg2 hh2
      obtain ⟨acc', y2, y3, g1, g2⟩ := ih (s + n + run [32] (l.drop (s + n))) (acc ++ [encS ((c :: r).take n)]) (.val (.int ((s + n : Nat) : Int))) hg2 hh2 (by omega) (by omega) (by simp; omega)
      have hfl : flW (o.map ((c :: r).take n :: ·)) = flW o := by cases o <;> rfl
      refine ⟨acc', y2, y3, fun ws e => ?_, ?_⟩
      · cases o with
        | none => cases e
        | some vs =>
          cases e
          rw [g1 vs rfl]
          simp
      · rw [hfl, s_wd hl m acc (by omega) x3 fuel hk ht]
        exact g2
def encW : Option (List (List Nat)) → M.D
  | none => .non
  | some ws => .lst (ws.map encS)
theorem split_ok {o : Option (List (List Nat))} (hk : Gw l o) : f_split_row [.str (S l)] m = some (encW o, m) := by
  have e0 := run_end_ok (P := [32]) hl 0 (by omega) m
  rw [Nat.zero_add, List.drop_zero] at e0
  obtain ⟨acc', y2, y3, g1, e⟩ := split_loop (o := o) hl m WMAX (run [32] l) [] .emp (gw_skip hk) (head_skip l) (run_le _ _) (by have := run_le [32] l; unfold WMAX; omega) (by simp; omega)
  rw [show ((0 : Nat) : Int) = 0 from rfl] at e0
  unfold f_split_row b_split_row
  cases o with
  | none => simp [fnM_ap, lit_sp, e0, sWhile_ap, e, flW, encW]
  | some ws =>
    rw [g1 ws rfl] at e
    simp [fnM_ap, lit_sp, e0, sWhile_ap, e, flW, encW]
end
end Lk03



namespace Lk03
open PySem L2 M
/-! words told -/
def RS : List Str := ["input", "from", "to", "list", "def", "let", "if", "else", "end", "while", "at", "most", "check", "refuse", "answer", "return", "skip", "and", "or", "not", "row", "yes", "no", "turn", "fault", "when", "then"]
def un (z : Str) : List Nat := z.cps.toList
theorem S_un (z : Str) : S (un z) = z := TL.mk_tl z
def RW : List (List Nat) := RS.map un
theorem strs_enc (zs : List Str) : zs.map M.D.str = (zs.map un).map encS := by
  rw [List.map_map]
  refine congrArg (fun f => List.map f zs) (funext fun z => ?_)
  show M.D.str z = .str (S (un z))
  rw [S_un]
theorem ok_of {z : Str} (h : PyData.strOk z = true) : Ok (un z) := by
  unfold PyData.strOk at h
  rw [Array.all_eq_true_iff_forall_mem] at h
  intro c hc
  have := h c (by simpa [un] using hc)
  simpa using this
theorem at_strs (zs : List Str) (h : (zs.all fun z => decide (z.length ≤ 14) && PyData.strOk z) = true) {v : Int} (h0 : 0 ≤ v) (h1 : v < zs.length) : ∃ w, atI (zs.map M.D.str) v = some (.str (S w)) ∧ Ok w ∧ w.length ≤ 14 := by
  have hl : v.toNat < zs.length := by omega
  rw [List.all_eq_true] at h
  have := h zs[v.toNat] (List.getElem_mem _)
  rw [Bool.and_eq_true] at this
  refine ⟨un zs[v.toNat], ?_, ok_of this.2, ?_⟩
  · rw [atI_pos h0 (by simpa using h1), S_un]
    simp [hl]
  · have := of_decide_eq_true this.1
    rw [← S_un zs[v.toNat], S_len] at this
    exact this
theorem inR_t (w : List Nat) : gIn3 false (.str (S w)) (.tup [M.D.str "input", .str "from", .str "to", .str "list", .str "def", .str "let", .str "if", .str "else", .str "end", .str "while", .str "at", .str "most", .str "check", .str "refuse", .str "answer", .str "return", .str "skip", .str "and", .str "or", .str "not", .str "row", .str "yes", .str "no", .str "turn", .str "fault", .str "when", .str "then"]) = some (.bl (decide (w ∈ RW))) := by
  have e : ([M.D.str "input", .str "from", .str "to", .str "list", .str "def", .str "let", .str "if", .str "else", .str "end", .str "while", .str "at", .str "most", .str "check", .str "refuse", .str "answer", .str "return", .str "skip", .str "and", .str "or", .str "not", .str "row", .str "yes", .str "no", .str "turn", .str "fault", .str "when", .str "then"] : List M.D) = RW.map fun l => .str (S l) := strs_enc RS
  rw [e]; exact inStrs_t w RW
theorem ok_RW : ∀ z ∈ RW, Ok z := by
  intro z hz
  obtain ⟨y, hy, rfl⟩ := List.mem_map.mp hz
  exact ok_of ((show ∀ y ∈ RS, PyData.strOk y = true by decide +kernel) y hy)
theorem reserved_ok (m : List Cell) : f_law_reserved [] m = some (.lst (RS.map M.D.str), m) := by
  unfold f_law_reserved b_law_reserved RS
  simp [fnM_ap]
theorem letters_ok (m : List Cell) : f_law_letters [] m = some (.str (S LL), m) := by
  unfold f_law_letters b_law_letters
  simp [fnM_ap, lit_L]
theorem inR_l {w : List Nat} (hw : Ok w) : gIn3 false (.str (S w)) (.lst (RS.map M.D.str)) = some (.bl (decide (w ∈ RW))) := by
  rw [strs_enc RS]; exact inStrs_l hw ok_RW
theorem run_all {P : List Nat} : ∀ {w : List Nat}, (∀ c ∈ w, c ∈ P) → run P w = w.length
  | [], _ => rfl
  | c :: r, h => by rw [run_cons r (h c (by simp)), run_all fun d hd => h d (by simp [hd])]; rfl
theorem all_run {P : List Nat} : ∀ {w : List Nat}, run P w = w.length → ∀ c ∈ w, c ∈ P
  | [], _, c, hc => by simp at hc
  | d :: r, h, c, hc => by
    by_cases q : d ∈ P
    · rw [run_cons r q] at h
      rcases List.mem_cons.mp hc with rfl | hc
      · exact q
      · exact all_run (by simpa using h) c hc
    · rw [run_not r q] at h; simp at h
theorem name_loop (x0 : M.Slot) (m : List Cell) : ∀ (w : List Nat) (x1 : M.Slot), ∃ y1, M.forM (gNm 1) l_law_is_name_1 (w.map fun c => M.D.str ⟨#[c]⟩) ⟨[x0, x1], m⟩ = some (if run LL w = w.length then .nx else .rt (.bl false), ⟨[x0, y1], m⟩)
  | [], x1 => ⟨x1, rfl⟩
  | c :: w, x1 => by
    obtain ⟨y1, e⟩ := name_loop x0 m w (.val (.str (S [c])))
    by_cases q : c ∈ LL
    · refine ⟨y1, ?_⟩
      have hif : (if run LL (c :: w) = (c :: w).length then Fl.nx else Fl.rt (.bl false)) = if run LL w = w.length then Fl.nx else Fl.rt (.bl false) := by rw [run_cons w q]; simp
      rw [hif, ← e, List.map_cons, forM_cons]
      generalize M.forM (gNm 1) l_law_is_name_1 (w.map fun c => M.D.str ⟨#[c]⟩) = K
      rw [show (⟨#[c]⟩ : Str) = S [c] from rfl]
      unfold l_law_is_name_1
      simp [letters_ok, inS, q]
    · refine ⟨.val (.str (S [c])), ?_⟩
      rw [run_not w q, if_neg (by simp), List.map_cons, forM_cons]
      rw [show (⟨#[c]⟩ : Str) = S [c] from rfl]
      unfold l_law_is_name_1
      simp [letters_ok, inS, q]
theorem number_loop (x0 : M.Slot) (m : List Cell) : ∀ (w : List Nat) (x1 : M.Slot), ∃ y1, M.forM (gNm 1) l_law_is_number_1 (w.map fun c => M.D.str ⟨#[c]⟩) ⟨[x0, x1], m⟩ = some (if run DD w = w.length then .nx else .rt (.bl false), ⟨[x0, y1], m⟩)
  | [], x1 => ⟨x1, rfl⟩
  | c :: w, x1 => by
    obtain ⟨y1, e⟩ := number_loop x0 m w (.val (.str (S [c])))
    by_cases q : c ∈ DD
    · refine ⟨y1, ?_⟩
      have hif : (if run DD (c :: w) = (c :: w).length then Fl.nx else Fl.rt (.bl false)) = if run DD w = w.length then Fl.nx else Fl.rt (.bl false) := by rw [run_cons w q]; simp
      rw [hif, ← e, List.map_cons, forM_cons]
      generalize M.forM (gNm 1) l_law_is_number_1 (w.map fun c => M.D.str ⟨#[c]⟩) = K
      rw [show (⟨#[c]⟩ : Str) = S [c] from rfl]
      unfold l_law_is_number_1
      simp [lit_D, inS, q]
    · refine ⟨.val (.str (S [c])), ?_⟩
      rw [run_not w q, if_neg (by simp), List.map_cons, forM_cons]
      rw [show (⟨#[c]⟩ : Str) = S [c] from rfl]
      unfold l_law_is_number_1
      simp [lit_D, inS, q]
theorem nI (a b : Nat) : ((a : Int) = (b : Int)) ↔ a = b := by omega
def isName (w : List Nat) : Bool := decide (w ∉ RW) && decide (1 ≤ w.length) && decide (w.length ≤ 12) && decide (run LL w = w.length)
def isNum (w : List Nat) : Bool := decide (1 ≤ w.length) && decide (w.length ≤ 10) && !(decide (w[0]? = some 48) && decide (1 < w.length)) && decide (run DD w = w.length)
theorem name_ok {w : List Nat} (hl : w.length ≤ 999990) (hw : Ok w) (m : List Cell) : f_is_name [.str (S w)] m = some (.bl (isName w), m) ∧ f_law_is_name [.str (S w)] m = some (.bl (isName w), m) := by
  have hlen := lenS (by omega : w.length ≤ 1000000)
  unfold isName
  refine ⟨?_, ?_⟩
  · have e := run_end_ok (P := LL) hl 0 (by omega) m
    rw [Nat.zero_add, List.drop_zero, show ((0 : Nat) : Int) = 0 from rfl] at e
    have h1 := inR_t w
    unfold f_is_name b_is_name
    by_cases c1 : w ∈ RW
    · simp [fnM_ap, nI, h1, c1]
    · by_cases c2 : 1 ≤ w.length
      · by_cases c3 : w.length ≤ 12
        · simp [fnM_ap, nI, h1, c1, eChain, hlen, show (1 : Int) ≤ w.length by omega, show (w.length : Int) ≤ 12 by omega, c2, c3, lit_L, e]
        · simp [fnM_ap, nI, h1, c1, eChain, hlen, show (1 : Int) ≤ w.length by omega, show ¬ (w.length : Int) ≤ 12 by omega, c2, c3]
      · simp [fnM_ap, nI, h1, c1, eChain, hlen, show ¬ (1 : Int) ≤ w.length by omega, c2]
  · obtain ⟨y1, e⟩ := name_loop (.val (.str (S w))) m w .emp
    have h1 := inR_l hw
    unfold f_law_is_name b_law_is_name
    by_cases c2 : 1 ≤ w.length
    · by_cases c3 : w.length ≤ 12
      · by_cases c1 : w ∈ RW
        · simp [fnM_ap, nI, reserved_ok, h1, c1, hlen, show ¬ (w.length : Int) < 1 by omega, show ¬ (12 : Int) < w.length by omega]
        · by_cases c4 : run LL w = w.length
          · rw [if_pos c4] at e
            simp [fnM_ap, nI, reserved_ok, h1, c1, hlen, show ¬ (w.length : Int) < 1 by omega, show ¬ (12 : Int) < w.length by omega, e, c2, c3, c4]
          · rw [if_neg c4] at e
            simp [fnM_ap, nI, reserved_ok, h1, c1, hlen, show ¬ (w.length : Int) < 1 by omega, show ¬ (12 : Int) < w.length by omega, e, c2, c3, c4]
      · simp [fnM_ap, nI, hlen, show ¬ (w.length : Int) < 1 by omega, show (12 : Int) < w.length by omega, c3]
    · simp [fnM_ap, nI, hlen, show (w.length : Int) < 1 by omega, c2]
theorem number_okW {w : List Nat} (hl : w.length ≤ 999990) (hw : Ok w) (m : List Cell) : f_is_number [.str (S w)] m = some (.bl (isNum w), m) ∧ f_law_is_number [.str (S w)] m = some (.bl (isNum w), m) := by
  unfold isNum
  have hlen := lenS (by omega : w.length ≤ 1000000)
  have e := run_end_ok (P := DD) hl 0 (by omega) m
  rw [Nat.zero_add, List.drop_zero, show ((0 : Nat) : Int) = 0 from rfl] at e
  obtain ⟨y1, e2⟩ := number_loop (.val (.str (S w))) m w .emp
  by_cases c2 : 1 ≤ w.length
  · by_cases c3 : w.length ≤ 10
    · have hc : w[0]? = some w[0] := by simp
      have hx := ixS (by omega : w.length ≤ 1000000) hc
      rw [show ((0 : Nat) : Int) = 0 from rfl] at hx
      have lit0 : ("0" : Str) = S [48] := by decide +kernel
      have heq := eqS (show Ok [w[0]] from fun d hd => by simp at hd; subst hd; exact hw _ (List.getElem_mem _)) (show Ok [48] from fun d hd => by simp at hd; omega)
      rw [hc]
      generalize w[0] = c at hx heq ⊢
      have hb : decide ([c] = [48]) = decide (c = 48) := by simp
      rw [hb] at heq
      by_cases c4 : c = 48
      · subst c4
        by_cases c5 : 1 < w.length
        · refine ⟨?_, ?_⟩
          · unfold f_is_number b_is_number
            simp [fnM_ap, nI, eChain, hlen, show (1 : Int) ≤ w.length by omega, show (w.length : Int) ≤ 10 by omega, hx, lit0, heq, c5, show (1 : Int) < w.length by omega]
          · unfold f_law_is_number b_law_is_number
            simp [fnM_ap, nI, hlen, show ¬ (w.length : Int) < 1 by omega, show ¬ (10 : Int) < w.length by omega, show (1 : Int) < w.length by omega, hx, lit0, heq, c5]
        · refine ⟨?_, ?_⟩
          · unfold f_is_number b_is_number
            simp [fnM_ap, nI, eChain, hlen, show (1 : Int) ≤ w.length by omega, show (w.length : Int) ≤ 10 by omega, hx, lit0, heq, c5, lit_D, e, c2, c3, show ¬ (1 : Int) < w.length by omega]
          · unfold f_law_is_number b_law_is_number
            by_cases c6 : run DD w = w.length
            · rw [if_pos c6] at e2
              simp [fnM_ap, nI, hlen, show ¬ (w.length : Int) < 1 by omega, show ¬ (10 : Int) < w.length by omega, show ¬ (1 : Int) < w.length by omega, c5, e2, c6, c2, c3]
            · rw [if_neg c6] at e2
              simp [fnM_ap, nI, hlen, show ¬ (w.length : Int) < 1 by omega, show ¬ (10 : Int) < w.length by omega, show ¬ (1 : Int) < w.length by omega, c5, e2, c6, c2, c3]
      · refine ⟨?_, ?_⟩
        · unfold f_is_number b_is_number
          simp [fnM_ap, nI, eChain, hlen, show (1 : Int) ≤ w.length by omega, show (w.length : Int) ≤ 10 by omega, hx, lit0, heq, c4, lit_D, e, c2, c3]
        · unfold f_law_is_number b_law_is_number
          by_cases c6 : run DD w = w.length
          · rw [if_pos c6] at e2
            by_cases c5 : 1 < w.length
            · simp [fnM_ap, nI, hlen, show ¬ (w.length : Int) < 1 by omega, show ¬ (10 : Int) < w.length by omega, show (1 : Int) < w.length by omega, hx, lit0, heq, c4, c5, e2, c6, c2, c3]
            · simp [fnM_ap, nI, hlen, show ¬ (w.length : Int) < 1 by omega, show ¬ (10 : Int) < w.length by omega, show ¬ (1 : Int) < w.length by omega, c4, c5, e2, c6, c2, c3]
          · rw [if_neg c6] at e2
            by_cases c5 : 1 < w.length
            · simp [fnM_ap, nI, hlen, show ¬ (w.length : Int) < 1 by omega, show ¬ (10 : Int) < w.length by omega, show (1 : Int) < w.length by omega, hx, lit0, heq, c4, c5, e2, c6, c2, c3]
            · simp [fnM_ap, nI, hlen, show ¬ (w.length : Int) < 1 by omega, show ¬ (10 : Int) < w.length by omega, show ¬ (1 : Int) < w.length by omega, c4, c5, e2, c6, c2, c3]
    · refine ⟨?_, ?_⟩
      · unfold f_is_number b_is_number
        simp [fnM_ap, nI, eChain, hlen, show (1 : Int) ≤ w.length by omega, show ¬ (w.length : Int) ≤ 10 by omega, c3]
      · unfold f_law_is_number b_law_is_number
        simp [fnM_ap, nI, hlen, show ¬ (w.length : Int) < 1 by omega, show (10 : Int) < w.length by omega, c3]
  · refine ⟨?_, ?_⟩
    · unfold f_is_number b_is_number
      simp [fnM_ap, nI, eChain, hlen, show ¬ (1 : Int) ≤ w.length by omega, c2]
    · unfold f_law_is_number b_law_is_number
      simp [fnM_ap, nI, hlen, show (w.length : Int) < 1 by omega, c2]
/-! pieces -/
theorem joinL_nil : ∀ ys : List (List Nat), TL.joinL [] ys = ys.flatten
  | [] => rfl
  | [p] => by simp [TL.joinL]
  | p :: q :: r => by
    show p ++ ([] ++ TL.joinL [] (q :: r)) = _
    rw [joinL_nil (q :: r)]; simp
theorem join_S (ys : List (List Nat)) : Txt.join "" (ys.map S) = S ys.flatten := by
  show PySem.Builtin.Str.glued "" _ = _
  rw [StrLaws.glued_eq_join]
  apply TL.ext_tl
  rw [TL.tl_join, show TL.tl ("" : Str) = [] from rfl, joinL_nil, List.map_map]
  have : (TL.tl ∘ S) = id := by funext l; rfl
  rw [this, List.map_id]; rfl
theorem strsD_S : ∀ ys : List (List Nat), strsD (ys.map encS) = some (ys.map S)
  | [] => rfl
  | y :: ys => by
    show (strsD (ys.map encS)).map _ = _
    rw [strsD_S ys]; rfl
theorem joinOk_S {ys : List (List Nat)} (h : ys.flatten.length ≤ 16777216) : joinOk "" (ys.map S) := by
  unfold joinOk
  rw [List.map_map]
  have : ((fun z : Str => z.length) ∘ S) = List.length := by funext l; simp
  rw [this, ← List.length_flatten, show ("" : Str).length = 0 from rfl]
  omega
theorem flat_one : ∀ out : List Nat, (out.map fun c => [c]).flatten = out
  | [] => rfl
  | c :: out => by simp [flat_one out]
theorem fold_sp : ∀ (k : Nat) (acc : Array Nat), ((List.replicate k (#[32] : Array Nat)).foldl (· ++ ·) acc).toList = acc.toList ++ List.replicate k 32
  | 0, acc => by simp
  | k + 1, acc => by
    rw [List.replicate_succ, List.foldl_cons, fold_sp k]
    simp [List.replicate_succ]
theorem mul_sp (n : Nat) : Txt.mul (S [32]) (n : Int) = S (List.replicate n 32) := by
  unfold Txt.mul
  by_cases h : (n : Int) < 1
  · have : n = 0 := by omega
    subst this
    rw [if_pos h]; rfl
  · rw [if_neg h]
    by_cases h1 : n = 1
    · subst h1; rfl
    · rw [if_neg (by simp; omega)]
      apply TL.ext_tl
      rw [Int.toNat_natCast]
      show ((List.replicate n (#[32] : Array Nat)).foldl (· ++ ·) #[]).toList = _
      rw [fold_sp]; rfl
theorem mul3_sp (n : Nat) (h : n ≤ 1000) : gMul3 (.str (S [32])) (.int (n : Int)) = some (.str (S (List.replicate n 32))) := by
  rw [gMul3_str, if_pos ⟨by simp, by omega, by omega⟩, mul_sp]
theorem ok_small {l : List Nat} (h : (l.all fun c => decide (c < 1000)) = true) : Ok l := fun c hc => by
  rw [List.all_eq_true] at h
  have := of_decide_eq_true (h c hc)
  omega
theorem mul4_sp (n : Nat) (h : n ≤ 1000) : gMul4 (.str (S [32])) (.int (n : Int)) = some (.str (S (List.replicate n 32))) := by
  rw [gMul4_str, mul3_sp n h]
end Lk03



namespace Lk03
open PySem L2 M
/-! numbers as texts -/
abbrev nl (n : Nat) : List Nat := TL.numL n
def numI (i : Int) : List Nat := if i < 0 then 45 :: nl (-i).toNat else nl i.toNat
theorem str_nat (n : Nat) : Str.ofString (toString ((n : Nat) : Int)) = S (nl n) := TL.ext_tl (TL.tl_num n)
theorem str_neg (n : Nat) : Str.ofString (toString (Int.negSucc n)) = S (45 :: nl (n + 1)) := by
  apply TL.ext_tl
  have h := TL.tl_num (n + 1)
  rw [TL.tl_ofString] at h
  rw [TL.tl_ofString]
  show (("-" ++ toString (n + 1)).toList).map Char.toNat = 45 :: nl (n + 1)
  rw [String.toList_append, List.map_append]
  show [45] ++ ((toString (n + 1)).toList).map Char.toNat = _
  exact congrArg (List.cons 45) h
theorem gStr_ok {i : Int} (h : -100000000000 < i ∧ i < 100000000000) : gStr (.int i) = some (.str (S (numI i))) := by
  have e : gStr (.int i) = if -BDIV < i ∧ i < BDIV then some (.str (Str.ofString (toString i))) else none := rfl
  rw [e, if_pos (by unfold BDIV; omega)]
  unfold numI
  cases i with
  | ofNat n => rw [if_neg (by simp), show Int.ofNat n = ((n : Nat) : Int) from rfl, str_nat]; rfl
  | negSucc n => rw [if_pos (Int.negSucc_lt_zero n), str_neg]; rfl
theorem nl_len {n : Nat} (h : n < 10000000000) : (nl n).length ≤ 10 := TL.numL_len (by omega) h
theorem nl_ne (n : Nat) : nl n ≠ [] := TL.numL_ne n
theorem nl_DD (n : Nat) : ∀ c ∈ nl n, c ∈ DD := fun c hc => by
  have := TL.numL_digits n c hc
  have h : c = 48 ∨ c = 49 ∨ c = 50 ∨ c = 51 ∨ c = 52 ∨ c = 53 ∨ c = 54 ∨ c = 55 ∨ c = 56 ∨ c = 57 := by omega
  rcases h with rfl | rfl | rfl | rfl | rfl | rfl | rfl | rfl | rfl | rfl <;> decide
theorem nl_head : ∀ n : Nat, 10 ≤ n → (nl n)[0]? ≠ some 48 := by
  intro n
  induction n using Nat.strongRecOn with
  | _ n ih =>
    intro h
    rw [show nl n = nl (n / 10) ++ [48 + n % 10] from TL.numL_step h]
    rw [List.getElem?_append_left (by have := nl_ne (n / 10); exact List.length_pos_iff.mpr this)]
    by_cases q : 10 ≤ n / 10
    · exact ih (n / 10) (by omega) q
    · rw [show nl (n / 10) = [48 + n / 10] from TL.numL_lt (by omega)]
      simp
      omega
theorem ok_DD {w : List Nat} (h : ∀ c ∈ w, c ∈ DD) : Ok w := fun c hc => (ok_small (l := DD) (by decide)) c (h c hc)
theorem ok_LL {w : List Nat} (h : ∀ c ∈ w, c ∈ LL) : Ok w := fun c hc => (ok_small (l := LL) (by decide)) c (h c hc)
theorem isNum_nl {n : Nat} (h : n < 10000000000) : isNum (nl n) = true := by
  have h1 := nl_len h
  have h2 : 1 ≤ (nl n).length := List.length_pos_iff.mpr (nl_ne n)
  have h3 := run_all (nl_DD n)
  have h4 : (decide ((nl n)[0]? = some 48) && decide (1 < (nl n).length)) = false := by
    by_cases q : 10 ≤ n
    · rw [decide_eq_false (nl_head n q)]; rfl
    · rw [show nl n = [48 + n] from TL.numL_lt (by omega)]; simp
  unfold isNum
  rw [h4, decide_eq_true h1, decide_eq_true h2, decide_eq_true h3]
  rfl
theorem isNum_spec {w : List Nat} (h : isNum w = true) : (∀ c ∈ w, c ∈ DD) ∧ w ≠ [] ∧ w.length ≤ 10 := by
  unfold isNum at h
  simp only [Bool.and_eq_true, decide_eq_true_eq] at h
  exact ⟨all_run h.2, List.length_pos_iff.mp h.1.1.1, h.1.1.2⟩
def val (w : List Nat) : Int := (NumText.digitsVal w : Nat)
theorem dig_DD {w : List Nat} (h : ∀ c ∈ w, c ∈ DD) : NumText.AllDigits w := fun c hc => by
  have := h c hc
  unfold DD at this
  simp at this
  omega
theorem val_nl (n : Nat) : val (nl n) = n := congrArg (fun k : Nat => (k : Int)) (TL.numL_val n)
theorem int_num {w : List Nat} (h : isNum w = true) : gInt3 (.str (S w)) = some (.int (val w)) := by
  obtain ⟨h1, h2, h3⟩ := isNum_spec h
  rw [gInt3_str, PySem.intText_digits (x := S w) (dig_DD h1) h2 (by rw [S_len]; omega)]
  show (if (S w).length ≤ 640 then some (M.D.int (val w)) else none) = _
  rw [if_pos (by rw [S_len]; omega)]
theorem int_neg {w : List Nat} (h : isNum w = true) : gInt3 (.str (S (45 :: w))) = some (.int (-val w)) := by
  obtain ⟨h1, h2, h3⟩ := isNum_spec h
  rw [gInt3_str, PySem.intText_neg (x := S (45 :: w)) (cs := w) rfl (dig_DD h1) h2 (by rw [S_len]; simp; omega)]
  show (if (S (45 :: w)).length ≤ 640 then some (M.D.int (-val w)) else none) = _
  rw [if_pos (by rw [S_len]; simp; omega)]
theorem plus_text {w : List Nat} (hd : NumText.AllDigits w) (hne : w ≠ []) (hl : w.length ≤ 4000) : intText? (S (43 :: w)) = some (val w) := by
  have a : ∀ c ∈ (43 :: w : List Nat), 33 ≤ c ∧ c < 128 := fun c hc => by
    rcases List.mem_cons.mp hc with rfl | hc
    · omega
    · have := hd c hc; omega
  have t1 : numTextOf (S (43 :: w)) = 43 :: w := by
    have : ((S (43 :: w)).cps.all fun c => decide (c < 128)) = true := by
      rw [Array.all_eq_true_iff_forall_mem]
      intro c hc
      have := a c (by simpa [S] using hc)
      simp; omega
    unfold numTextOf
    rw [if_pos this]; rfl
  have t2 : numSeenOf (S (43 :: w)) = 43 :: w := by
    unfold numSeenOf
    rw [t1]
    refine NumText.takeWhile_all fun c hc => ?_
    have := a c hc
    simp; omega
  have t3 : NumText.sign ((43 :: w).dropWhile NumText.blank) = (false, w) := by rw [NumText.dropWhile_of (by omega)]; rfl
  have t4 : NumText.core (43 :: w) = w := by
    show ((NumText.sign ((43 :: w).dropWhile NumText.blank)).2.reverse.dropWhile NumText.blank).reverse = w
    rw [t3]
    show (w.reverse.dropWhile NumText.blank).reverse = w
    rw [NumText.dropWhile_digits hd.reverse]
    simp
  have t5 := NumText.push_size w #[]
  have t6 := NumText.push_foldl w #[]
  unfold intText?
  rw [t1, t2, if_pos (by simp), t4, NumText.digits_of hd hne, t3]
  dsimp only
  rw [if_pos (by rw [t5]; simp; omega)]
  show some (((List.foldl (fun acc c => acc.push (c - 48)) (#[] : Array Nat) w).foldl (fun acc d => acc * 10 + d) 0 : Nat) : Int) = _
  rw [t6]; rfl
theorem int_plus {w : List Nat} (h : isNum w = true) : gInt3 (.str (S (43 :: w))) = some (.int (val w)) := by
  obtain ⟨h1, h2, h3⟩ := isNum_spec h
  rw [gInt3_str, plus_text (dig_DD h1) h2 (by omega)]
  show (if (S (43 :: w)).length ≤ 640 then some (M.D.int (val w)) else none) = _
  rw [if_pos (by rw [S_len]; simp; omega)]
/-! expressions -/
inductive Pe where
  | num (n : Int) | var (s : List Nat) (c : Int)
inductive Ex where
  | pl (p : Pe) | item (s : List Nat) (p : Pe) (c : Int)
def encP : Pe → M.D
  | .num n => .tup [.str "num", .int n]
  | .var s c => .tup [.str "var", .str (S s), .int c]
def encE : Ex → M.D
  | .pl p => encP p
  | .item s p c => .tup [.str "item", .str (S s), encP p, .int c]
def NoOk (n : Int) : Prop := -10000000000 < n ∧ n < 10000000000
def NmOk (s : List Nat) : Prop := isName s = true
theorem NmOk.spec {s : List Nat} (h : NmOk s) : s ∉ RW ∧ 1 ≤ s.length ∧ s.length ≤ 12 ∧ ∀ c ∈ s, c ∈ LL := by
  unfold NmOk isName at h
  simp only [Bool.and_eq_true, decide_eq_true_eq] at h
  exact ⟨h.1.1.1, h.1.1.2, h.1.2, all_run h.2⟩
def PeOk : Pe → Prop
  | .num n => NoOk n
  | .var s c => NmOk s ∧ NoOk c
def ExOk : Ex → Prop
  | .pl p => PeOk p
  | .item s p c => NmOk s ∧ PeOk p ∧ NoOk c
def plusT (c : Int) : List Nat := if c = 0 then [] else if 0 < c then [32, 43, 32] ++ nl c.toNat else [32, 45, 32] ++ nl (-c).toNat
def txP : Pe → List Nat
  | .num n => numI n
  | .var s c => s ++ plusT c
def tx : Ex → List Nat
  | .pl p => txP p
  | .item s p c => s ++ [91] ++ txP p ++ [93] ++ plusT c
def plusW (c : Int) : List (List Nat) := if c = 0 then [] else if 0 < c then [[43], nl c.toNat] else [[45], nl (-c).toNat]
def wdP : Pe → List (List Nat)
  | .num n => if n < 0 then [[45], nl (-n).toNat] else [nl n.toNat]
  | .var s c => s :: plusW c
def wd : Ex → List (List Nat)
  | .pl p => wdP p
  | .item s p c => [s, [91]] ++ wdP p ++ [[93]] ++ plusW c
theorem so_num : PyData.strOk ("num" : Str) = true := by decide +kernel
theorem so_var : PyData.strOk ("var" : Str) = true := by decide +kernel
theorem so_item : PyData.strOk ("item" : Str) = true := by decide +kernel
theorem ne1 : ¬ (("var" : Str) = "num") := by decide +kernel
theorem ne2 : ¬ (("item" : Str) = "num") := by decide +kernel
theorem ne3 : ¬ (("item" : Str) = "var") := by decide +kernel
theorem lit_p : (" + " : Str) = S [32, 43, 32] := by decide +kernel
theorem lit_m : (" - " : Str) = S [32, 45, 32] := by decide +kernel
theorem lit_plus : ("+" : Str) = S [43] := by decide +kernel
theorem lit_minus : ("-" : Str) = S [45] := by decide +kernel
theorem lit_open : ("[" : Str) = S [91] := by decide +kernel
theorem lit_close : ("]" : Str) = S [93] := by decide +kernel
theorem lit_e : ("" : Str) = S [] := by decide +kernel
theorem addS {a b : List Nat} (h : a.length + b.length ≤ 1000000) : gAdd (.str (S a)) (.str (S b)) = some (.str (S (a ++ b))) := by rw [gAdd_str, if_pos (by simpa using h), S_app]
theorem numI_pos {c : Int} (h : 0 ≤ c) : numI c = nl c.toNat := by unfold numI; rw [if_neg (by omega)]
theorem numI_neg {c : Int} (h : c < 0) : numI c = 45 :: nl (-c).toNat := by unfold numI; rw [if_pos h]
theorem plusT_len {c : Int} (h : NoOk c) : (plusT c).length ≤ 13 := by
  unfold NoOk at h
  unfold plusT
  split
  · simp
  · split
    · have := nl_len (n := c.toNat) (by omega); simp; omega
    · have := nl_len (n := (-c).toNat) (by omega); simp; omega
theorem numI_len {c : Int} (h : NoOk c) : (numI c).length ≤ 11 := by
  unfold NoOk at h
  unfold numI
  split
  · have := nl_len (n := (-c).toNat) (by omega); simp; omega
  · have := nl_len (n := c.toNat) (by omega); omega
theorem txP_len {p : Pe} (h : PeOk p) : (txP p).length ≤ 25 := by
  cases p with
  | num n => have := numI_len h; show (numI n).length ≤ 25; omega
  | var s c =>
    obtain ⟨h1, h2⟩ := h
    have := plusT_len h2
    have := h1.spec
    show (s ++ plusT c).length ≤ 25
    rw [List.length_append]; omega
theorem write_plus_ok {c : Int} (h : NoOk c) (m : List Cell) : f_write_plus [.int c] m = some (.str (S (plusT c)), m) := by
  unfold NoOk at h
  unfold f_write_plus b_write_plus
  by_cases h1 : 0 < c
  · have e := gStr_ok (i := c) (by omega)
    rw [numI_pos (by omega)] at e
    have hl := nl_len (n := c.toNat) (by omega)
    have ha := addS (a := [32, 43, 32]) (b := nl c.toNat) (by simp; omega)
    rw [show plusT c = [32, 43, 32] ++ nl c.toNat by unfold plusT; rw [if_neg (by omega), if_pos h1]]
    simp [-gAdd_str, fnM_ap, h1, e, lit_p, ha]
  · by_cases h2 : c < 0
    · have e := gStr_ok (i := -c) (by omega)
      rw [numI_pos (by omega)] at e
      have hl := nl_len (n := (-c).toNat) (by omega)
      have ha := addS (a := [32, 45, 32]) (b := nl (-c).toNat) (by simp; omega)
      rw [show plusT c = [32, 45, 32] ++ nl (-c).toNat by unfold plusT; rw [if_neg (by omega), if_neg h1]]
      simp [-gAdd_str, fnM_ap, h1, h2, e, lit_m, ha]
    · obtain rfl : c = 0 := by omega
      simp [fnM_ap, lit_e, plusT]
theorem law_plus_ok {c : Int} (h : NoOk c) (m : List Cell) : f_law_plus_text [.int c] m = some (.str (S (plusT c)), m) := by
  unfold NoOk at h
  unfold f_law_plus_text b_law_plus_text
  by_cases h0 : c = 0
  · subst h0
    simp [fnM_ap, lit_e, plusT]
  · have hs : ("  " : Str) = S [32, 32] := by decide +kernel
    by_cases h1 : 0 < c
    · have e := gStr_ok (i := c) (by omega)
      rw [numI_pos (by omega)] at e
      have hl := nl_len (n := c.toNat) (by omega)
      have ha := addS (a := [32] ++ [43] ++ [32]) (b := nl c.toNat) (by simp; omega)
      have ha1 := addS (a := [32]) (b := [43]) (by simp)
      have ha2 := addS (a := [32] ++ [43]) (b := [32]) (by simp)
      rw [show plusT c = [32] ++ [43] ++ [32] ++ nl c.toNat by unfold plusT; rw [if_neg h0, if_pos h1]; rfl]
      generalize [32] ++ [43] ++ [32] ++ nl c.toNat = Z at ha ⊢
      generalize [32] ++ [43] ++ [32] = Y at ha ha2
      generalize [32] ++ [43] = X at ha1 ha2
      simp [-gAdd_str, fnM_ap, h0, h1, show ¬ c < 0 by omega, e, lit_sp, lit_plus, lit_minus, ha1, ha2, ha]
    · have e := gStr_ok (i := -c) (by omega)
      rw [numI_pos (by omega)] at e
      have hl := nl_len (n := (-c).toNat) (by omega)
      have ha := addS (a := [32] ++ [45] ++ [32]) (b := nl (-c).toNat) (by simp; omega)
      have ha1 := addS (a := [32]) (b := [45]) (by simp)
      have ha2 := addS (a := [32] ++ [45]) (b := [32]) (by simp)
      rw [show plusT c = [32] ++ [45] ++ [32] ++ nl (-c).toNat by unfold plusT; rw [if_neg h0, if_neg h1]; rfl]
      generalize [32] ++ [45] ++ [32] ++ nl (-c).toNat = Z at ha ⊢
      generalize [32] ++ [45] ++ [32] = Y at ha ha2
      generalize [32] ++ [45] = X at ha1 ha2
      simp [-gAdd_str, fnM_ap, h0, h1, show c < 0 by omega, e, lit_sp, lit_plus, lit_minus, ha1, ha2, ha]
theorem plus_words_ok {c : Int} (h : NoOk c) (m : List Cell) : f_law_plus_words [.int c] m = some (.lst ((plusW c).map encS), m) := by
  unfold NoOk at h
  unfold f_law_plus_words b_law_plus_words
  by_cases h0 : c = 0
  · subst h0
    simp [fnM_ap, plusW]
  · by_cases h1 : 0 < c
    · have e := gStr_ok (i := c) (by omega)
      rw [numI_pos (by omega)] at e
      rw [show plusW c = [[43], nl c.toNat] by unfold plusW; rw [if_neg h0, if_pos h1]]
      simp [fnM_ap, h0, h1, show ¬ c < 0 by omega, e, lit_plus, lit_minus, encS]
    · have e := gStr_ok (i := -c) (by omega)
      rw [numI_pos (by omega)] at e
      rw [show plusW c = [[45], nl (-c).toNat] by unfold plusW; rw [if_neg h0, if_neg h1]]
      simp [fnM_ap, h0, h1, show c < 0 by omega, e, lit_plus, lit_minus, encS]
theorem wr_P {p : Pe} (h : PeOk p) (k : Nat) (m : List Cell) : f_write_expression (k + 1) [encP p] m = some (.str (S (txP p)), m) ∧ f_law_text (k + 1) [encP p] m = some (.str (S (txP p)), m) := by
  cases p with
  | num n =>
    have e := gStr_ok (i := n) (by unfold PeOk NoOk at h; omega)
    refine ⟨?_, ?_⟩
    · show fnM 1 (b_write_expression (f_write_expression k)) _ _ = _
      generalize f_write_expression k = rec
      unfold b_write_expression encP txP
      simp [fnM_ap, so_num, e]
    · show fnM 1 (b_law_text (f_law_text k)) _ _ = _
      generalize f_law_text k = rec
      unfold b_law_text encP txP
      simp [fnM_ap, so_num, e]
  | var s c =>
    obtain ⟨h1, h2⟩ := h
    have hs := h1.spec
    have hl := plusT_len h2
    have ha := addS (a := s) (b := plusT c) (by omega)
    have e1 := write_plus_ok h2 m
    have e2 := law_plus_ok h2 m
    refine ⟨?_, ?_⟩
    · show fnM 1 (b_write_expression (f_write_expression k)) _ _ = _
      generalize f_write_expression k = rec
      unfold b_write_expression encP txP
      simp [-gAdd_str, fnM_ap, so_num, so_var, ne1, e1, ha]
    · show fnM 1 (b_law_text (f_law_text k)) _ _ = _
      generalize f_law_text k = rec
      unfold b_law_text encP txP
      simp [-gAdd_str, fnM_ap, so_num, so_var, ne1, e2, ha]
theorem wr_E {e : Ex} (h : ExOk e) (k : Nat) (m : List Cell) : f_write_expression (k + 2) [encE e] m = some (.str (S (tx e)), m) ∧ f_law_text (k + 2) [encE e] m = some (.str (S (tx e)), m) := by
  cases e with
  | pl p => exact wr_P h (k + 1) m
  | item s p c =>
    obtain ⟨h1, h2, h3⟩ := h
    have hs := h1.spec
    have hl := plusT_len h3
    have hp := txP_len h2
    obtain ⟨f1, f2⟩ := wr_P h2 k m
    have e1 := write_plus_ok h3 m
    have e2 := law_plus_ok h3 m
    have a1 := addS (a := s) (b := [91]) (by simp; omega)
    have a2 := addS (a := s ++ [91]) (b := txP p) (by simp; omega)
    have a3 := addS (a := s ++ [91] ++ txP p) (b := [93]) (by simp; omega)
    have a4 := addS (a := s ++ [91] ++ txP p ++ [93]) (b := plusT c) (by simp; omega)
    have et : tx (.item s p c) = s ++ [91] ++ txP p ++ [93] ++ plusT c := rfl
    rw [et]
    generalize s ++ [91] ++ txP p ++ [93] ++ plusT c = Z at a4 ⊢
    generalize s ++ [91] ++ txP p ++ [93] = Y at a3 a4
    generalize s ++ [91] ++ txP p = X at a2 a3
    generalize s ++ [91] = W at a1 a2
    refine ⟨?_, ?_⟩
    · show fnM 1 (b_write_expression (f_write_expression (k + 1))) _ _ = _
      generalize f_write_expression (k + 1) = rec at f1
      unfold b_write_expression encE
      simp [-gAdd_str, fnM_ap, so_num, so_var, so_item, ne2, ne3, lit_open, lit_close, a1, f1, a2, a3, e1, a4]
    · show fnM 1 (b_law_text (f_law_text (k + 1))) _ _ = _
      generalize f_law_text (k + 1) = rec at f2
      unfold b_law_text encE
      simp [-gAdd_str, fnM_ap, so_num, so_var, so_item, ne2, ne3, lit_open, lit_close, a1, f2, a2, a3, e2, a4]
theorem plusW_len (c : Int) : (plusW c).length ≤ 2 := by
  unfold plusW
  split
  · simp
  · split <;> simp
theorem wdP_len (p : Pe) : (wdP p).length ≤ 3 := by
  cases p with
  | num n => show (if n < 0 then _ else _ : List (List Nat)).length ≤ 3; split <;> simp
  | var s c => have := plusW_len c; show (s :: plusW c).length ≤ 3; simp; omega
theorem words_P {p : Pe} (h : PeOk p) (k : Nat) (m : List Cell) : f_law_words_of (k + 1) [encP p] m = some (.lst ((wdP p).map encS), m) := by
  cases p with
  | num n =>
    show fnM 1 (b_law_words_of (f_law_words_of k)) _ _ = _
    generalize f_law_words_of k = rec
    have h' : NoOk n := h
    unfold NoOk at h'
    by_cases h0 : n < 0
    · have e := gStr_ok (i := -n) (by omega)
      rw [numI_pos (by omega)] at e
      rw [show wdP (.num n) = [[45], nl (-n).toNat] by show (if n < 0 then _ else _ : List (List Nat)) = _; rw [if_pos h0]]
      unfold b_law_words_of encP
      simp [fnM_ap, so_num, h0, e, lit_minus, encS]
    · have e := gStr_ok (i := n) (by omega)
      rw [numI_pos (by omega)] at e
      rw [show wdP (.num n) = [nl n.toNat] by show (if n < 0 then _ else _ : List (List Nat)) = _; rw [if_neg h0]]
      unfold b_law_words_of encP
      simp [fnM_ap, so_num, h0, e, encS]
  | var s c =>
    obtain ⟨h1, h2⟩ := h
    have e := plus_words_ok h2 m
    have hl := plusW_len c
    show fnM 1 (b_law_words_of (f_law_words_of k)) _ _ = _
    generalize f_law_words_of k = rec
    have hx : (wdP (.var s c)).map encS = [.str (S s)] ++ (plusW c).map encS := rfl
    have hn : ((plusW c).map encS).length ≤ 2 := by simpa using hl
    rw [hx]
    generalize (plusW c).map encS = P at e hn ⊢
    unfold b_law_words_of encP
    simp [fnM_ap, so_num, so_var, ne1, e, show 1 + P.length ≤ 1000000 by omega]
theorem words_E {e : Ex} (h : ExOk e) (k : Nat) (m : List Cell) : f_law_words_of (k + 2) [encE e] m = some (.lst ((wd e).map encS), m) := by
  cases e with
  | pl p => exact words_P h (k + 1) m
  | item s p c =>
    obtain ⟨h1, h2, h3⟩ := h
    have f1 := words_P h2 k m
    have e1 := plus_words_ok h3 m
    have hl := plusW_len c
    have hp := wdP_len p
    show fnM 1 (b_law_words_of (f_law_words_of (k + 1))) _ _ = _
    generalize f_law_words_of (k + 1) = rec at f1
    have hx : (wd (.item s p c)).map encS = [.str (S s), .str (S [91])] ++ (wdP p).map encS ++ [.str (S [93])] ++ (plusW c).map encS := by
      show ([s, [91]] ++ wdP p ++ [[93]] ++ plusW c).map encS = _
      simp only [List.map_append]; rfl
    have hn : ((plusW c).map encS).length ≤ 2 := by simpa using hl
    have hm : ((wdP p).map encS).length ≤ 3 := by simpa using hp
    rw [hx]
    generalize (plusW c).map encS = P at e1 hn ⊢
    generalize (wdP p).map encS = Q at f1 hm ⊢
    unfold b_law_words_of encE
    simp [fnM_ap, so_num, so_var, so_item, ne2, ne3, lit_open, lit_close, f1, e1, show 2 + Q.length ≤ 1000000 by omega, show Q.length + 2 + 1 ≤ 1000000 by omega, show 2 + Q.length + 1 ≤ 1000000 by omega, show 2 + Q.length + 1 + P.length ≤ 1000000 by omega, show Q.length + 2 + 1 + P.length ≤ 1000000 by omega]
end Lk03



namespace Lk03
open PySem L2 M
/-! reading words -/
def wA (ws : List (List Nat)) (a : Nat) : List Nat := (ws[a]?).getD []
def WsOk (ws : List (List Nat)) : Prop := ws.length ≤ 5000 ∧ ∀ w ∈ ws, Ok w ∧ w.length ≤ 100
theorem wA_ok {ws : List (List Nat)} (h : WsOk ws) (a : Nat) : Ok (wA ws a) ∧ (wA ws a).length ≤ 100 := by
  unfold wA
  cases e : ws[a]? with
  | none => exact ⟨by intro c hc; simp at hc, by simp⟩
  | some w => exact h.2 w (List.mem_of_getElem? e)
theorem wA_in {ws : List (List Nat)} {a : Nat} (h : a < ws.length) : atI (ws.map encS) (a : Int) = some (.str (S (wA ws a))) := by
  have : (ws.map encS)[a]? = some (.str (S (wA ws a))) := by
    unfold wA
    simp [h, encS]
  exact atl this
theorem wA_out {ws : List (List Nat)} {a : Nat} (h : ¬ a < ws.length) : wA ws a = [] := by
  unfold wA
  rw [List.getElem?_eq_none (by omega)]; rfl
theorem isNum_nil : isNum [] = false := by decide
theorem isName_nil : isName [] = false := by decide +kernel
def sgR (ws : List (List Nat)) (a : Nat) : Option (Int × Nat) := if isNum (wA ws a) = true then some (val (wA ws a), a + 1) else if wA ws a = [45] ∧ isNum (wA ws (a + 1)) = true then some (-val (wA ws (a + 1)), a + 2) else none
def plR (ws : List (List Nat)) (a : Nat) : Option (Int × Nat) := if wA ws a = [43] ∨ wA ws a = [45] then (if isNum (wA ws (a + 1)) = true then some (if wA ws a = [45] then -val (wA ws (a + 1)) else val (wA ws (a + 1)), a + 2) else none) else some (0, a)
def paR (ws : List (List Nat)) (a : Nat) : Option (Pe × Nat) := match sgR ws a with
  | some (v, b) => some (.num v, b)
  | none => if isName (wA ws a) = true then match plR ws (a + 1) with
    | none => none
    | some (c, b) => some (.var (wA ws a) c, b) else none
def exR (ws : List (List Nat)) (a : Nat) : Option (Ex × Nat) := if isName (wA ws a) = true ∧ wA ws (a + 1) = [91] then match paR ws (a + 2) with
    | none => none
    | some (p, b) => if wA ws b = [93] then match plR ws (b + 1) with
      | none => none
      | some (c, d) => some (.item (wA ws a) p c, d) else none
  else match paR ws a with
    | none => none
    | some (p, b) => some (.pl p, b)
def eN : Option (Int × Nat) → M.D
  | none => .non
  | some (v, b) => .tup [.int v, .int (b : Int)]
def eNl : Option (Int × Nat) → M.D
  | none => .non
  | some (v, b) => .lst [.int v, .int (b : Int)]
def eP : Option (Pe × Nat) → M.D
  | none => .non
  | some (v, b) => .tup [encP v, .int (b : Int)]
def ePl : Option (Pe × Nat) → M.D
  | none => .non
  | some (v, b) => .lst [encP v, .int (b : Int)]
def eX : Option (Ex × Nat) → M.D
  | none => .non
  | some (v, b) => .tup [encE v, .int (b : Int)]
def eXl : Option (Ex × Nat) → M.D
  | none => .non
  | some (v, b) => .lst [encE v, .int (b : Int)]
theorem ok1 {c : Nat} (h : c < 1000) : Ok [c] := fun d hd => by simp at hd; omega
section
variable {ws : List (List Nat)} (hw : WsOk ws) (m : List Cell)
include hw
theorem len_W : ((ws.map encS).length : Int) = (ws.length : Int) := by simp
theorem word_at_ok (a : Nat) : f_word_at [.lst (ws.map encS), .int (a : Int)] m = some (.str (S (wA ws a)), m) := by
  have hl := len_W hw
  unfold f_word_at b_word_at
  by_cases h : a < ws.length
  · have e := wA_in h
    generalize ws.map encS = W at hl e ⊢
    simp [fnM_ap, hl, h, e]
  · rw [wA_out h]
    generalize ws.map encS = W at hl ⊢
    simp [fnM_ap, hl, h, lit_e]
theorem isn (a : Nat) : f_is_number [.str (S (wA ws a))] m = some (.bl (isNum (wA ws a)), m) := (number_okW (by have := (wA_ok hw a).2; omega) (wA_ok hw a).1 m).1
theorem lisn (a : Nat) : f_law_is_number [.str (S (wA ws a))] m = some (.bl (isNum (wA ws a)), m) := (number_okW (by have := (wA_ok hw a).2; omega) (wA_ok hw a).1 m).2
theorem ism (a : Nat) : f_is_name [.str (S (wA ws a))] m = some (.bl (isName (wA ws a)), m) := (name_ok (by have := (wA_ok hw a).2; omega) (wA_ok hw a).1 m).1
theorem lism (a : Nat) : f_law_is_name [.str (S (wA ws a))] m = some (.bl (isName (wA ws a)), m) := (name_ok (by have := (wA_ok hw a).2; omega) (wA_ok hw a).1 m).2
theorem num_in {a : Nat} (h : isNum (wA ws a) = true) : a < ws.length := by
  apply Decidable.byContradiction
  intro z
  rw [wA_out z, isNum_nil] at h
  cases h
theorem name_in {a : Nat} (h : isName (wA ws a) = true) : a < ws.length := by
  apply Decidable.byContradiction
  intro z
  rw [wA_out z, isName_nil] at h
  cases h
theorem one_in {a c : Nat} (h : wA ws a = [c]) : a < ws.length := by
  apply Decidable.byContradiction
  intro z
  rw [wA_out z] at h
  cases h
theorem signed_ok (a : Nat) : f_signed_at [.lst (ws.map encS), .int (a : Int)] m = some (eN (sgR ws a), m) ∧ f_law_signed [.lst (ws.map encS), .int (a : Int)] m = some (eNl (sgR ws a), m) := by
  have w1 := word_at_ok hw m a
  have w2 := word_at_ok hw m (a + 1)
  have n1 := isn hw m a
  have n2 := isn hw m (a + 1)
  have l1 := lisn hw m a
  have l2 := lisn hw m (a + 1)
  have hl := len_W hw
  have hq := eqS (wA_ok hw a).1 (ok1 (c := 45) (by omega))
  rw [show (((a + 1 : Nat)) : Int) = (a : Int) + 1 from rfl] at w2
  unfold sgR
  by_cases c1 : isNum (wA ws a) = true
  · have ha := num_in hw c1
    have e1 := wA_in ha
    have i1 := int_num c1
    rw [if_pos c1]
    rw [c1] at n1 l1
    generalize ws.map encS = W at *
    generalize S (wA ws a) = U at *
    refine ⟨?_, ?_⟩
    · unfold f_signed_at b_signed_at
      simp [fnM_ap, w1, n1, e1, i1, eN]
    · unfold f_law_signed b_law_signed
      simp [fnM_ap, hl, ha, l1, e1, i1, eNl]
  · rw [if_neg c1]
    rw [Bool.not_eq_true] at c1
    rw [c1] at n1 l1
    by_cases c2 : wA ws a = [45]
    · have ha := one_in hw c2
      have e1 := wA_in ha
      by_cases c3 : isNum (wA ws (a + 1)) = true
      · have ha2 := num_in hw c3
        have e2 := wA_in ha2
        rw [show (((a + 1 : Nat)) : Int) = (a : Int) + 1 from rfl] at e2
        have i2 := int_num c3
        rw [if_pos ⟨c2, c3⟩]
        rw [c3] at n2 l2
        rw [c2] at w1 n1 l1 hq e1
        generalize ws.map encS = W at *
        generalize S (wA ws (a + 1)) = V at *
        refine ⟨?_, ?_⟩
        · unfold f_signed_at b_signed_at
          simp [fnM_ap, w1, n1, lit_minus, hq, w2, n2, e2, i2, eN]
        · unfold f_law_signed b_law_signed
          simp [fnM_ap, hl, ha, l1, e1, show (a : Int) + 1 < ws.length by omega, lit_minus, hq, e2, l2, i2, eNl]
      · rw [if_neg (fun z => c3 z.2)]
        rw [Bool.not_eq_true] at c3
        rw [c3] at n2 l2
        rw [c2] at w1 n1 l1 hq e1
        refine ⟨?_, ?_⟩
        · generalize ws.map encS = W at *
          generalize S (wA ws (a + 1)) = V at *
          unfold f_signed_at b_signed_at
          simp [fnM_ap, w1, n1, lit_minus, hq, w2, n2, eN]
        · unfold f_law_signed b_law_signed
          by_cases c4 : a + 1 < ws.length
          · have e2 := wA_in c4
            rw [show (((a + 1 : Nat)) : Int) = (a : Int) + 1 from rfl] at e2
            generalize ws.map encS = W at *
            generalize S (wA ws (a + 1)) = V at *
            simp [fnM_ap, hl, ha, l1, e1, show (a : Int) + 1 < ws.length by omega, lit_minus, hq, e2, l2, eNl]
          · generalize ws.map encS = W at *
            simp [fnM_ap, hl, ha, l1, e1, show ¬ (a : Int) + 1 < ws.length by omega, eNl]
    · rw [if_neg (fun z => c2 z.1)]
      rw [decide_eq_false c2] at hq
      refine ⟨?_, ?_⟩
      · generalize ws.map encS = W at *
        generalize S (wA ws a) = U at *
        unfold f_signed_at b_signed_at
        simp [fnM_ap, w1, n1, lit_minus, hq, eN]
      · unfold f_law_signed b_law_signed
        by_cases ha : a < ws.length
        · have e1 := wA_in ha
          generalize ws.map encS = W at *
          generalize S (wA ws a) = U at *
          by_cases c4 : a + 1 < ws.length
          · simp [fnM_ap, hl, ha, l1, e1, show (a : Int) + 1 < ws.length by omega, lit_minus, hq, eNl]
          · simp [fnM_ap, hl, ha, l1, e1, show ¬ (a : Int) + 1 < ws.length by omega, eNl]
        · generalize ws.map encS = W at *
          simp [fnM_ap, hl, ha, show ¬ (a : Int) + 1 < ws.length by omega, eNl]
theorem pm_t {u : List Nat} : gIn3 true (.str (S u)) (.tup [.str "+", .str "-"]) = some (.bl (!decide (u = [43] ∨ u = [45]))) := by
  rw [lit_plus, lit_minus]
  rw [gIn3_tup]
  unfold gIn gInL gInT
  simp only [Option.none_or]
  rw [if_pos ⟨rfl, rfl⟩]
  simp only [List.any_cons, List.any_nil, Bool.or_false, eqF_S, if_true]
  congr 2
  by_cases h1 : u = [43]
  · subst h1; decide
  · by_cases h2 : u = [45]
    · subst h2; decide
    · rw [decide_eq_false (show ¬ (u = [43] ∨ u = [45]) by simp [h1, h2]), decide_eq_false (show ¬ [43] = u from fun z => h1 z.symm), decide_eq_false (show ¬ [45] = u from fun z => h2 z.symm)]; rfl
theorem pm_l {u : List Nat} (hu : Ok u) : gIn3 false (.str (S u)) (.lst [.str "+", .str "-"]) = some (.bl (decide (u = [43] ∨ u = [45]))) := by
  rw [lit_plus, lit_minus]
  have e := inStrs_l hu (zs := [[43], [45]]) (fun z hz => by
    simp only [List.mem_cons, List.not_mem_nil, or_false] at hz
    rcases hz with rfl | rfl
    · exact ok1 (by omega)
    · exact ok1 (by omega))
  have h2 : decide (u ∈ [[43], [45]]) = decide (u = [43] ∨ u = [45]) := by simp
  rw [h2] at e
  exact e
theorem plus_ok (a : Nat) : f_plus_at [.lst (ws.map encS), .int (a : Int)] m = some (eN (plR ws a), m) ∧ f_law_read_plus [.lst (ws.map encS), .int (a : Int)] m = some (eNl (plR ws a), m) := by
  have w1 := word_at_ok hw m a
  have w2 := word_at_ok hw m (a + 1)
  have n2 := isn hw m (a + 1)
  have l2 := lisn hw m (a + 1)
  have hl := len_W hw
  have hq := eqS (wA_ok hw a).1 (ok1 (c := 45) (by omega))
  have p1 := pm_t hw (u := wA ws a)
  have p2 := pm_l hw (wA_ok hw a).1
  rw [show (((a + 1 : Nat)) : Int) = (a : Int) + 1 from rfl] at w2
  unfold plR
  by_cases c1 : wA ws a = [43] ∨ wA ws a = [45]
  · have ha : a < ws.length := by rcases c1 with c | c <;> exact one_in hw c
    have e1 := wA_in ha
    rw [if_pos c1]
    rw [decide_eq_true c1] at p1 p2
    by_cases c3 : isNum (wA ws (a + 1)) = true
    · have ha2 := num_in hw c3
      have e2 := wA_in ha2
      rw [show (((a + 1 : Nat)) : Int) = (a : Int) + 1 from rfl] at e2
      have i2 := int_num c3
      have i3 := int_neg c3
      have i4 := int_plus c3
      have hlen := (isNum_spec c3).2.2
      have s1 := addS (a := [43]) (b := wA ws (a + 1)) (by simp; omega)
      have s2 := addS (a := [45]) (b := wA ws (a + 1)) (by simp; omega)
      rw [List.singleton_append] at s1 s2
      rw [if_pos c3]
      rw [c3] at n2 l2
      rcases c1 with c | c
      · rw [c] at w1 hq p1 p2 e1 ⊢
        rw [if_neg (by decide)]
        rw [show decide ([43] = [45]) = false from rfl] at hq
        generalize S (43 :: wA ws (a + 1)) = Z at *
        generalize ws.map encS = W at *
        generalize S (wA ws (a + 1)) = V at *
        refine ⟨?_, ?_⟩
        · unfold f_plus_at b_plus_at
          rw [lit_plus, lit_minus] at p1
          simp [fnM_ap, w1, p1, w2, n2, e1, lit_plus, lit_minus, hq, e2, i2, eN]
        · unfold f_law_read_plus b_law_read_plus
          simp [-gAdd_str, fnM_ap, hl, ha, e1, p2, show ¬ (ws.length : Int) ≤ (a : Int) + 1 by omega, e2, l2, s1, i4, eNl]
      · rw [c] at w1 hq p1 p2 e1 ⊢
        rw [if_pos rfl]
        rw [show decide ([45] = [45]) = true from rfl] at hq
        generalize S (45 :: wA ws (a + 1)) = Z at *
        generalize ws.map encS = W at *
        generalize S (wA ws (a + 1)) = V at *
        refine ⟨?_, ?_⟩
        · unfold f_plus_at b_plus_at
          rw [lit_plus, lit_minus] at p1
          simp [fnM_ap, w1, p1, w2, n2, e1, lit_plus, lit_minus, hq, e2, i2, eN]
        · unfold f_law_read_plus b_law_read_plus
          simp [-gAdd_str, fnM_ap, hl, ha, e1, p2, show ¬ (ws.length : Int) ≤ (a : Int) + 1 by omega, e2, l2, s2, i3, eNl]
    · rw [if_neg c3]
      rw [Bool.not_eq_true] at c3
      rw [c3] at n2 l2
      refine ⟨?_, ?_⟩
      · generalize ws.map encS = W at *
        generalize S (wA ws (a + 1)) = V at *
        generalize S (wA ws a) = U at *
        unfold f_plus_at b_plus_at
        simp [fnM_ap, w1, p1, w2, n2, eN]
      · unfold f_law_read_plus b_law_read_plus
        by_cases c4 : a + 1 < ws.length
        · have e2 := wA_in c4
          rw [show (((a + 1 : Nat)) : Int) = (a : Int) + 1 from rfl] at e2
          generalize ws.map encS = W at *
          generalize S (wA ws (a + 1)) = V at *
          generalize S (wA ws a) = U at *
          simp [fnM_ap, hl, ha, e1, p2, show ¬ (ws.length : Int) ≤ (a : Int) + 1 by omega, e2, l2, eNl]
        · generalize ws.map encS = W at *
          generalize S (wA ws a) = U at *
          simp [fnM_ap, hl, ha, e1, p2, show (ws.length : Int) ≤ (a : Int) + 1 by omega, eNl]
  · rw [if_neg c1]
    rw [decide_eq_false c1] at p1 p2
    refine ⟨?_, ?_⟩
    · generalize ws.map encS = W at *
      generalize S (wA ws a) = U at *
      unfold f_plus_at b_plus_at
      simp [fnM_ap, w1, p1, eN]
    · unfold f_law_read_plus b_law_read_plus
      by_cases ha : a < ws.length
      · have e1 := wA_in ha
        generalize ws.map encS = W at *
        generalize S (wA ws a) = U at *
        simp [fnM_ap, hl, ha, e1, p2, eNl]
      · generalize ws.map encS = W at *
        simp [fnM_ap, hl, ha, eNl]
theorem plain_ok (a : Nat) : f_plain_at [.lst (ws.map encS), .int (a : Int)] m = some (eP (paR ws a), m) ∧ f_law_read_plain [.lst (ws.map encS), .int (a : Int)] m = some (ePl (paR ws a), m) := by
  obtain ⟨s1, s2⟩ := signed_ok hw m a
  obtain ⟨p1, p2⟩ := plus_ok hw m (a + 1)
  have w1 := word_at_ok hw m a
  have n1 := ism hw m a
  have l1 := lism hw m a
  have hl := len_W hw
  rw [show (((a + 1 : Nat)) : Int) = (a : Int) + 1 from rfl] at p1 p2
  unfold paR
  cases hs : sgR ws a with
  | some vb =>
    obtain ⟨v, b⟩ := vb
    rw [hs] at s1 s2
    unfold eN at s1
    unfold eNl at s2
    generalize ws.map encS = W at *
    refine ⟨?_, ?_⟩
    · unfold f_plain_at b_plain_at
      simp [fnM_ap, s1, eP, encP]
    · unfold f_law_read_plain b_law_read_plain
      simp [fnM_ap, s2, ePl, encP]
  | none =>
    rw [hs] at s1 s2
    unfold eN at s1
    unfold eNl at s2
    dsimp only at s1 s2 ⊢
    by_cases c1 : isName (wA ws a) = true
    · have ha := name_in hw c1
      have e1 := wA_in ha
      rw [if_pos c1]
      rw [c1] at n1 l1
      cases hp : plR ws (a + 1) with
      | none =>
        rw [hp] at p1 p2
        unfold eN at p1
        unfold eNl at p2
        dsimp only at p1 p2 ⊢
        generalize ws.map encS = W at *
        generalize S (wA ws a) = U at *
        refine ⟨?_, ?_⟩
        · unfold f_plain_at b_plain_at
          simp [fnM_ap, s1, w1, n1, p1, eP]
        · unfold f_law_read_plain b_law_read_plain
          simp [fnM_ap, s2, hl, show ¬ (ws.length : Int) ≤ (a : Int) by omega, e1, l1, p2, ePl]
      | some cb =>
        obtain ⟨c, b⟩ := cb
        rw [hp] at p1 p2
        unfold eN at p1
        unfold eNl at p2
        dsimp only at p1 p2 ⊢
        unfold eP ePl encP
        dsimp only
        generalize ws.map encS = W at *
        generalize S (wA ws a) = U at *
        refine ⟨?_, ?_⟩
        · unfold f_plain_at b_plain_at
          simp [fnM_ap, s1, w1, n1, p1, e1]
        · unfold f_law_read_plain b_law_read_plain
          simp [fnM_ap, s2, hl, show ¬ (ws.length : Int) ≤ (a : Int) by omega, e1, l1, p2]
    · rw [if_neg c1]
      rw [Bool.not_eq_true] at c1
      rw [c1] at n1 l1
      refine ⟨?_, ?_⟩
      · generalize ws.map encS = W at *
        generalize S (wA ws a) = U at *
        unfold f_plain_at b_plain_at
        simp [fnM_ap, s1, w1, n1, eP]
      · unfold f_law_read_plain b_law_read_plain
        by_cases ha : a < ws.length
        · have e1 := wA_in ha
          generalize ws.map encS = W at *
          generalize S (wA ws a) = U at *
          simp [fnM_ap, s2, hl, show ¬ (ws.length : Int) ≤ (a : Int) by omega, e1, l1, ePl]
        · generalize ws.map encS = W at *
          simp [fnM_ap, s2, hl, show (ws.length : Int) ≤ (a : Int) by omega, ePl]
theorem expr_ok (a : Nat) : f_expression_at [.lst (ws.map encS), .int (a : Int)] m = some (eX (exR ws a), m) ∧ f_law_read [.lst (ws.map encS), .int (a : Int)] m = some (eXl (exR ws a), m) := by
  obtain ⟨s1, s2⟩ := plain_ok hw m a
  obtain ⟨t1, t2⟩ := plain_ok hw m (a + 2)
  have w1 := word_at_ok hw m a
  have w2 := word_at_ok hw m (a + 1)
  have n1 := ism hw m a
  have l1 := lism hw m a
  have hl := len_W hw
  have hq := eqS (wA_ok hw (a + 1)).1 (ok1 (c := 91) (by omega))
  rw [show (((a + 1 : Nat)) : Int) = (a : Int) + 1 from rfl] at w2
  rw [show (((a + 2 : Nat)) : Int) = (a : Int) + 2 from rfl] at t1 t2
  have el : ∀ (o : Option (Pe × Nat)), (eX (match o with
    | none => none
    | some (p, b) => some (.pl p, b)) = eP o) ∧ (eXl (match o with
    | none => none
    | some (p, b) => some (.pl p, b)) = ePl o) := fun o => by cases o <;> exact ⟨rfl, rfl⟩
  unfold exR
  by_cases c0 : isName (wA ws a) = true ∧ wA ws (a + 1) = [91]
  · rw [if_pos c0]
    obtain ⟨c1, c2⟩ := c0
    have ha := name_in hw c1
    have ha2 := one_in hw c2
    have e1 := wA_in ha
    have e2 := wA_in ha2
    rw [show (((a + 1 : Nat)) : Int) = (a : Int) + 1 from rfl] at e2
    rw [c1] at n1 l1
    rw [c2] at w2 e2 hq
    rw [show decide ([91] = [91]) = true from rfl] at hq
    cases hp : paR ws (a + 2) with
    | none =>
      rw [hp] at t1 t2
      unfold eP at t1
      unfold ePl at t2
      unfold eX eXl
      dsimp only at t1 t2 ⊢
      generalize ws.map encS = W at *
      generalize S (wA ws a) = U at *
      refine ⟨?_, ?_⟩
      · unfold f_expression_at b_expression_at
        simp [fnM_ap, w1, n1, w2, lit_open, hq, t1]
      · unfold f_law_read b_law_read
        simp [fnM_ap, hl, show ¬ (ws.length : Int) ≤ (a : Int) + 1 by omega, e1, l1, e2, lit_open, hq, t2]
    | some pb =>
      obtain ⟨p, b⟩ := pb
      rw [hp] at t1 t2
      unfold eP at t1
      unfold ePl at t2
      dsimp only at t1 t2 ⊢
      have w3 := word_at_ok hw m b
      have hq2 := eqS (wA_ok hw b).1 (ok1 (c := 93) (by omega))
      obtain ⟨p1, p2⟩ := plus_ok hw m (b + 1)
      rw [show (((b + 1 : Nat)) : Int) = (b : Int) + 1 from rfl] at p1 p2
      by_cases c3 : wA ws b = [93]
      · have hb := one_in hw c3
        have e3 := wA_in hb
        rw [c3] at w3 hq2 e3
        rw [show decide ([93] = [93]) = true from rfl] at hq2
        rw [if_pos c3]
        cases hr : plR ws (b + 1) with
        | none =>
          rw [hr] at p1 p2
          unfold eN at p1
          unfold eNl at p2
          unfold eX eXl
          dsimp only at p1 p2 ⊢
          generalize ws.map encS = W at *
          generalize S (wA ws a) = U at *
          generalize encP p = P at *
          refine ⟨?_, ?_⟩
          · unfold f_expression_at b_expression_at
            simp [fnM_ap, w1, n1, w2, lit_open, lit_close, hq, t1, w3, hq2, p1]
          · unfold f_law_read b_law_read
            simp [fnM_ap, hl, show ¬ (ws.length : Int) ≤ (a : Int) + 1 by omega, e1, l1, e2, lit_open, lit_close, hq, t2, show ¬ ws.length ≤ b by omega, e3, hq2, p2]
        | some cd =>
          obtain ⟨c, d⟩ := cd
          rw [hr] at p1 p2
          unfold eN at p1
          unfold eNl at p2
          unfold eX eXl encE
          dsimp only at p1 p2 ⊢
          generalize ws.map encS = W at *
          generalize S (wA ws a) = U at *
          generalize encP p = P at *
          refine ⟨?_, ?_⟩
          · unfold f_expression_at b_expression_at
            simp [fnM_ap, w1, n1, w2, lit_open, lit_close, hq, t1, w3, hq2, p1, e1]
          · unfold f_law_read b_law_read
            simp [fnM_ap, hl, show ¬ (ws.length : Int) ≤ (a : Int) + 1 by omega, e1, l1, e2, lit_open, lit_close, hq, t2, show ¬ ws.length ≤ b by omega, e3, hq2, p2]
      · rw [if_neg c3]
        rw [decide_eq_false c3] at hq2
        unfold eX eXl
        dsimp only
        refine ⟨?_, ?_⟩
        · generalize ws.map encS = W at *
          generalize S (wA ws a) = U at *
          generalize S (wA ws b) = V at *
          generalize encP p = P at *
          unfold f_expression_at b_expression_at
          simp [fnM_ap, w1, n1, w2, lit_open, lit_close, hq, t1, w3, hq2]
        · unfold f_law_read b_law_read
          by_cases hb : b < ws.length
          · have e3 := wA_in hb
            generalize ws.map encS = W at *
            generalize S (wA ws a) = U at *
            generalize S (wA ws b) = V at *
            generalize encP p = P at *
            simp [fnM_ap, hl, show ¬ (ws.length : Int) ≤ (a : Int) + 1 by omega, e1, l1, e2, lit_open, lit_close, hq, t2, show ¬ ws.length ≤ b by omega, e3, hq2]
          · generalize ws.map encS = W at *
            generalize S (wA ws a) = U at *
            generalize encP p = P at *
            simp [fnM_ap, hl, show ¬ (ws.length : Int) ≤ (a : Int) + 1 by omega, e1, l1, e2, lit_open, lit_close, hq, t2, show ws.length ≤ b by omega]
  · rw [if_neg c0, (el (paR ws a)).1, (el (paR ws a)).2]
    refine ⟨?_, ?_⟩
    · by_cases c1 : isName (wA ws a) = true
      · have c2 : ¬ wA ws (a + 1) = [91] := fun z => c0 ⟨c1, z⟩
        rw [c1] at n1
        rw [decide_eq_false c2] at hq
        generalize ws.map encS = W at *
        generalize S (wA ws a) = U at *
        generalize S (wA ws (a + 1)) = V at *
        unfold f_expression_at b_expression_at
        simp [fnM_ap, w1, n1, w2, lit_open, hq, s1]
      · rw [Bool.not_eq_true] at c1
        rw [c1] at n1
        generalize ws.map encS = W at *
        generalize S (wA ws a) = U at *
        unfold f_expression_at b_expression_at
        simp [fnM_ap, w1, n1, s1]
    · unfold f_law_read b_law_read
      by_cases ha2 : a + 1 < ws.length
      · have e1 := wA_in (ws := ws) (a := a) (by omega)
        have e2 := wA_in ha2
        rw [show (((a + 1 : Nat)) : Int) = (a : Int) + 1 from rfl] at e2
        by_cases c1 : isName (wA ws a) = true
        · have c2 : ¬ wA ws (a + 1) = [91] := fun z => c0 ⟨c1, z⟩
          rw [c1] at l1
          rw [decide_eq_false c2] at hq
          generalize ws.map encS = W at *
          generalize S (wA ws a) = U at *
          generalize S (wA ws (a + 1)) = V at *
          simp [fnM_ap, hl, show ¬ (ws.length : Int) ≤ (a : Int) + 1 by omega, e1, l1, e2, lit_open, hq, s2]
        · rw [Bool.not_eq_true] at c1
          rw [c1] at l1
          generalize ws.map encS = W at *
          generalize S (wA ws a) = U at *
          simp [fnM_ap, hl, show ¬ (ws.length : Int) ≤ (a : Int) + 1 by omega, e1, l1, s2]
      · generalize ws.map encS = W at *
        simp [fnM_ap, hl, show (ws.length : Int) ≤ (a : Int) + 1 by omega, s2]
end
end Lk03



namespace Lk03
open PySem L2 M
/-! words that stand one behind the other -/
def Tk (w : List Nat) : Prop := w ≠ [] ∧ ((∀ c ∈ w, c ∈ LL) ∨ (∀ c ∈ w, c ∈ DD) ∨ w ∈ GG ∨ ∃ c ∈ HH, w = [c])
def Sep (w r : List Nat) : Prop := ∀ d, r.head? = some d → ((∀ c ∈ w, c ∈ LL) → d ∉ LL) ∧ ((∀ c ∈ w, c ∈ DD) → d ∉ DD) ∧ ∀ c, w = [c] → [c, d] ∉ GG
theorem run_app2 {P r : List Nat} (hr : ∀ d, r.head? = some d → d ∉ P) : ∀ w : List Nat, (∀ c ∈ w, c ∈ P) → run P (w ++ r) = w.length
  | [], _ => by
    cases r with
    | nil => rfl
    | cons d r => exact run_not r (hr d rfl)
  | c :: w, h => by
    rw [List.cons_append, run_cons _ (h c (by simp)), run_app2 hr w fun d hd => h d (by simp [hd])]; rfl
theorem LD : ∀ c ∈ DD, c ∉ LL := by decide
theorem HL : ∀ c ∈ HH, c ∉ LL := by decide
theorem HD : ∀ c ∈ HH, c ∉ DD := by decide
theorem GL : ∀ w ∈ GG, ∀ c ∈ w, c ∉ LL ∧ c ∉ DD ∧ c ≠ 32 := by decide
theorem tok_word {w r : List Nat} (h : Tk w) (hs : Sep w r) : tok (w ++ r) = some w.length := by
  obtain ⟨hne, h⟩ := h
  rcases h with h | h | h | ⟨c, hc, rfl⟩
  · have e := run_app2 (P := LL) (fun d hd => (hs d hd).1 h) w h
    cases w with
    | nil => exact absurd rfl hne
    | cons c w =>
      rw [List.cons_append] at e ⊢
      rw [tok_cons, if_pos (h c (by simp)), e]
  · have e := run_app2 (P := DD) (fun d hd => (hs d hd).2.1 h) w h
    cases w with
    | nil => exact absurd rfl hne
    | cons c w =>
      rw [List.cons_append] at e ⊢
      rw [tok_cons, if_neg (LD c (h c (by simp))), if_pos (h c (by simp)), e]
  · have hl := GG_len w h
    obtain ⟨a, b, rfl⟩ : ∃ a b, w = [a, b] := by
      match w, hl with
      | [a, b], _ => exact ⟨a, b, rfl⟩
    have g := GL _ h a (by simp)
    show tok (a :: b :: r) = some 2
    rw [tok_cons, if_neg g.1, if_neg g.2.1, if_pos (by exact h)]
  · have hg : (c :: r).take 2 ∉ GG := by
      cases r with
      | nil => intro z; have := GG_len _ z; simp at this
      | cons d r => exact (hs d rfl).2.2 c rfl
    show tok (c :: r) = some 1
    rw [tok_cons, if_neg (HL c hc), if_neg (HD c hc), if_neg hg, if_pos hc]
theorem tk_head {c : Nat} {w : List Nat} (h : Tk (c :: w)) : c ≠ 32 := by
  obtain ⟨_, h⟩ := h
  rcases h with h | h | h | ⟨d, hd, e⟩
  · intro z; subst z; exact absurd (h 32 (by simp)) (by decide)
  · intro z; subst z; exact absurd (h 32 (by simp)) (by decide)
  · exact (GL _ h c (by simp)).2.2
  · cases e; intro z; subst z; exact absurd hd (by decide)
theorem gw_word {w r : List Nat} {o : Option (List (List Nat))} (h : Tk w) (hs : Sep w r) (hg : Gw r o) : Gw (w ++ r) (o.map (w :: ·)) := by
  have ht := tok_word h hs
  cases w with
  | nil => exact absurd rfl h.1
  | cons c w =>
    have e1 : (c :: w ++ r).take (c :: w).length = c :: w := by simp
    have e2 : (c :: w ++ r).drop (c :: w).length = r := by simp
    have := Gw.wd (c := c) (r := w ++ r) (n := (c :: w).length) (o := o) (tk_head h) ht (by simp) (by simp) (by rw [← List.cons_append, e2]; exact hg)
    rw [← List.cons_append, e1] at this
    exact this
theorem gw_wordS {w r : List Nat} {vs : List (List Nat)} (h : Tk w) (hs : Sep w r) (hg : Gw r (some vs)) : Gw (w ++ r) (some (w :: vs)) := gw_word h hs hg
theorem tk_LL {w : List Nat} (h : ∀ c ∈ w, c ∈ LL) (h2 : 1 ≤ w.length) : Tk w := ⟨List.length_pos_iff.mp h2, .inl h⟩
theorem tk_nl (n : Nat) : Tk (nl n) := ⟨nl_ne n, .inr (.inl (nl_DD n))⟩
theorem tk_HH {c : Nat} (h : c ∈ HH) : Tk [c] := ⟨by simp, .inr (.inr (.inr ⟨c, h, rfl⟩))⟩
theorem sep_nil (w : List Nat) : Sep w [] := fun d hd => by cases hd
/-- a sign that begins no longer one -/
theorem sep_free {c : Nat} (h : c ∉ LL ∧ c ∉ DD ∧ c ≠ 60 ∧ c ≠ 62 ∧ c ≠ 61 ∧ c ≠ 33) (r : List Nat) : Sep [c] r := fun d _ => ⟨fun z => absurd (z c (by simp)) h.1, fun z => absurd (z c (by simp)) h.2.1, fun e he => by
  cases he
  obtain ⟨_, _, h1, h2, h3, h4⟩ := h
  simp [GG, h1, h2, h3, h4]⟩
/-- what a letter, a figure and "=" are not -/
theorem sep_by {w r : List Nat} (h : ∀ d, r.head? = some d → d ∉ LL ∧ d ∉ DD ∧ d ≠ 61) : Sep w r := fun d hd => ⟨fun _ => (h d hd).1, fun _ => (h d hd).2.1, fun c _ => by
  have := (h d hd).2.2
  simp [GG, this]⟩
theorem GG2 : ∀ d, d = 32 ∨ d = 93 ∨ d = 91 → d ∉ LL ∧ d ∉ DD ∧ d ≠ 61 := by
  intro d h
  rcases h with rfl | rfl | rfl <;> decide
theorem gw_plus {c : Int} {r : List Nat} {vs : List (List Nat)} (hg : Gw r (some vs)) (hr : ∀ d, r.head? = some d → d = 93) : Gw (plusT c ++ r) (some (plusW c ++ vs)) := by
  have hs : ∀ w, Sep w r := fun w => sep_by fun d hd => GG2 d (.inr (.inl (hr d hd)))
  unfold plusT plusW
  by_cases h0 : c = 0
  · rw [if_pos h0, if_pos h0]; exact hg
  · rw [if_neg h0, if_neg h0]
    by_cases h1 : 0 < c
    · rw [if_pos h1, if_pos h1]
      have := Gw.sp (gw_wordS (tk_HH (c := 43) (by decide)) (sep_free (by decide) _) (.sp (gw_wordS (tk_nl c.toNat) (hs _) hg)))
      simpa using this
    · rw [if_neg h1, if_neg h1]
      have := Gw.sp (gw_wordS (tk_HH (c := 45) (by decide)) (sep_free (by decide) _) (.sp (gw_wordS (tk_nl (-c).toNat) (hs _) hg)))
      simpa using this
theorem plus_head {c : Int} {r : List Nat} (hr : ∀ d, r.head? = some d → d = 93) : ∀ d, (plusT c ++ r).head? = some d → d = 32 ∨ d = 93 ∨ d = 91 := by
  intro d hd
  unfold plusT at hd
  split at hd
  · exact .inr (.inl (hr d hd))
  · split at hd
    · cases hd; exact .inl rfl
    · cases hd; exact .inl rfl
theorem gw_P {p : Pe} (hp : PeOk p) {r : List Nat} {vs : List (List Nat)} (hg : Gw r (some vs)) (hr : ∀ d, r.head? = some d → d = 93) : Gw (txP p ++ r) (some (wdP p ++ vs)) := by
  have hs : ∀ w, Sep w r := fun w => sep_by fun d hd => GG2 d (.inr (.inl (hr d hd)))
  cases p with
  | num n =>
    show Gw (numI n ++ r) (some ((if n < 0 then [[45], nl (-n).toNat] else [nl n.toNat]) ++ vs))
    unfold numI
    by_cases h : n < 0
    · rw [if_pos h, if_pos h]
      have := gw_wordS (tk_HH (c := 45) (by decide)) (sep_free (by decide) _) (gw_wordS (tk_nl (-n).toNat) (hs _) hg)
      simpa using this
    · rw [if_neg h, if_neg h]
      exact gw_wordS (tk_nl n.toNat) (hs _) hg
  | var s c =>
    obtain ⟨h1, h2⟩ := hp
    have hx := h1.spec
    show Gw (s ++ plusT c ++ r) (some (s :: plusW c ++ vs))
    rw [List.append_assoc]
    exact gw_wordS (tk_LL hx.2.2.2 hx.2.1) (sep_by fun d hd => GG2 d (plus_head hr d hd)) (gw_plus hg hr)
theorem gw_tx {e : Ex} (h : ExOk e) : Gw (tx e) (some (wd e)) := by
  cases e with
  | pl p =>
    have := gw_P h .nil (fun d hd => by cases hd)
    rw [List.append_nil, List.append_nil] at this
    exact this
  | item s p c =>
    obtain ⟨h1, h2, h3⟩ := h
    have hx := h1.spec
    have g1 := gw_plus (c := c) .nil (fun d hd => by cases hd)
    have g2 := gw_wordS (tk_HH (c := 93) (by decide)) (sep_free (by decide) (plusT c ++ [])) g1
    have g3 := gw_P h2 g2 (fun d hd => by cases hd; rfl)
    have g4 := gw_wordS (tk_HH (c := 91) (by decide)) (sep_free (by decide) _) g3
    have g5 := gw_wordS (tk_LL hx.2.2.2 hx.2.1) (sep_by fun d hd => GG2 d (by cases hd; exact .inr (.inr rfl))) g4
    have e1 : tx (.item s p c) = s ++ ([91] ++ (txP p ++ ([93] ++ (plusT c ++ [])))) := by
      show s ++ [91] ++ txP p ++ [93] ++ plusT c = _
      simp
    have e2 : wd (.item s p c) = s :: [91] :: (wdP p ++ [93] :: (plusW c ++ [])) := by
      show [s, [91]] ++ wdP p ++ [[93]] ++ plusW c = _
      simp
    rw [e1, e2]
    exact g5
/-- a sign of no word -/
theorem gw_foreign {l : List Nat} {o : Option (List (List Nat))} (h : Gw l o) {x : Nat} (hx : x ∉ LL ∧ x ∉ DD ∧ x ∉ HH ∧ x ≠ 32) : x ∈ l → 61 ∉ l → o = none := by
  induction h with
  | nil => intro h _; simp at h
  | sp _ ih =>
    intro h1 h2
    refine ih ?_ (fun z => h2 (List.mem_cons_of_mem _ z))
    rcases List.mem_cons.mp h1 with e | e
    · exact absurd e hx.2.2.2
    · exact e
  | bad => intro _ _; rfl
  | @wd c r n o hc ht hp hle _ ih =>
    intro h1 h2
    have hd : x ∈ (c :: r).drop n := by
      rw [← List.take_append_drop n (c :: r)] at h1
      rcases List.mem_append.mp h1 with z | z
      · exfalso
        rw [tok_cons] at ht
        split at ht
        · cases ht
          have : ∀ (P l : List Nat), ∀ y ∈ l.take (run P l), y ∈ P := fun P l => by
            induction l with
            | nil => intro y hy; simp at hy
            | cons d l ih2 =>
              intro y hy
              by_cases q : d ∈ P
              · rw [run_cons _ q, List.take_succ_cons] at hy
                rcases List.mem_cons.mp hy with rfl | hy
                · exact q
                · exact ih2 y hy
              · rw [run_not _ q] at hy; simp at hy
          exact hx.1 (this _ _ _ z)
        · split at ht
          · cases ht
            have : ∀ (P l : List Nat), ∀ y ∈ l.take (run P l), y ∈ P := fun P l => by
              induction l with
              | nil => intro y hy; simp at hy
              | cons d l ih2 =>
                intro y hy
                by_cases q : d ∈ P
                · rw [run_cons _ q, List.take_succ_cons] at hy
                  rcases List.mem_cons.mp hy with rfl | hy
                  · exact q
                  · exact ih2 y hy
                · rw [run_not _ q] at hy; simp at hy
            exact hx.2.1 (this _ _ _ z)
          · split at ht
            · rename_i q
              have : ∀ w ∈ GG, 61 ∈ w := by decide
              exact h2 (List.mem_of_mem_take (this _ q))
            · split at ht
              · rename_i q
                cases ht
                simp at z
                subst z
                exact hx.2.2.1 q
              · cases ht
      · exact z
    rw [ih hd (fun z => h2 (List.mem_of_mem_drop z))]; rfl
/-! reading an expression's own words -/
theorem val_nat {c : Int} (h : 0 ≤ c) : val (nl c.toNat) = c := by rw [val_nl]; omega
theorem isNum_c {c : Int} (h : NoOk c) (h0 : 0 ≤ c) : isNum (nl c.toNat) = true := isNum_nl (by unfold NoOk at h; omega)
theorem isNum_n {c : Int} (h : NoOk c) (h0 : c < 0) : isNum (nl (-c).toNat) = true := isNum_nl (by unfold NoOk at h; omega)
theorem name_notnum {s : List Nat} (h : NmOk s) : isNum s = false := by
  cases hs : isNum s with
  | false => rfl
  | true =>
    obtain ⟨g1, g2, _⟩ := isNum_spec hs
    have hx := h.spec
    cases s with
    | nil => exact absurd rfl g2
    | cons c s => exact absurd (hx.2.2.2 c (by simp)) (LD c (g1 c (by simp)))
theorem num_notname {w : List Nat} (h : isNum w = true) : isName w = false := by
  cases hs : isName w with
  | false => rfl
  | true => rw [name_notnum hs] at h; cases h
theorem name_sign {s : List Nat} (h : NmOk s) {c : Nat} (hc : c ∉ LL) : ¬ s = [c] := fun e => by
  subst e
  exact hc (h.spec.2.2.2 c (by simp))
theorem plR_ok {ws : List (List Nat)} {a : Nat} {c : Int} (hc : NoOk c) (h0 : c = 0 → wA ws a ≠ [43] ∧ wA ws a ≠ [45]) (h1 : 0 < c → wA ws a = [43] ∧ wA ws (a + 1) = nl c.toNat) (h2 : c < 0 → wA ws a = [45] ∧ wA ws (a + 1) = nl (-c).toNat) : plR ws a = some (c, a + (plusW c).length) := by
  unfold plR plusW
  by_cases c0 : c = 0
  · obtain ⟨g1, g2⟩ := h0 c0
    rw [if_neg (fun z => z.elim g1 g2), if_pos c0, c0]; rfl
  · by_cases c1 : 0 < c
    · obtain ⟨g1, g2⟩ := h1 c1
      rw [if_pos (.inl g1), g2, if_pos (isNum_c hc (by omega)), g1, if_neg (by decide), if_neg c0, if_pos c1, val_nat (by omega)]; rfl
    · obtain ⟨g1, g2⟩ := h2 (by omega)
      rw [if_pos (.inr g1), g2, if_pos (isNum_n hc (by omega)), g1, if_pos rfl, if_neg c0, if_neg c1, val_nat (by omega)]
      simp
theorem wA_app {xs ys : List (List Nat)} (i : Nat) : wA (xs ++ ys) (xs.length + i) = wA ys i := by
  unfold wA
  rw [List.getElem?_append_right (by omega)]
  simp
theorem wA_plus (xs vs : List (List Nat)) {c : Int} (hv : wA vs 0 ≠ [43] ∧ wA vs 0 ≠ [45]) (hc : NoOk c) : plR (xs ++ (plusW c ++ vs)) xs.length = some (c, xs.length + (plusW c).length) := by
  have e0 := wA_app (xs := xs) (ys := plusW c ++ vs) 0
  have e1 := wA_app (xs := xs) (ys := plusW c ++ vs) 1
  rw [Nat.add_zero] at e0
  refine plR_ok hc (fun z => ?_) (fun z => ?_) (fun z => ?_)
  · rw [e0]
    rw [show plusW c = [] by unfold plusW; rw [if_pos z]]
    exact hv
  · rw [e0, e1]
    rw [show plusW c = [[43], nl c.toNat] by unfold plusW; rw [if_neg (by omega), if_pos z]]
    exact ⟨rfl, rfl⟩
  · rw [e0, e1]
    rw [show plusW c = [[45], nl (-c).toNat] by unfold plusW; rw [if_neg (by omega), if_neg (by omega)]]
    exact ⟨rfl, rfl⟩
theorem paR_ok (xs vs : List (List Nat)) {p : Pe} (hp : PeOk p) (hv : wA vs 0 ≠ [43] ∧ wA vs 0 ≠ [45]) : paR (xs ++ (wdP p ++ vs)) xs.length = some (p, xs.length + (wdP p).length) := by
  have e0 := wA_app (xs := xs) (ys := wdP p ++ vs) 0
  have e1 := wA_app (xs := xs) (ys := wdP p ++ vs) 1
  rw [Nat.add_zero] at e0
  cases p with
  | num n =>
    have hn : NoOk n := hp
    have ew : wdP (.num n) = if n < 0 then [[45], nl (-n).toNat] else [nl n.toNat] := rfl
    unfold paR sgR
    rw [e0, e1, ew]
    by_cases h : n < 0
    · rw [if_pos h]
      rw [show wA ([[45], nl (-n).toNat] ++ vs) 0 = [45] from rfl, show wA ([[45], nl (-n).toNat] ++ vs) 1 = nl (-n).toNat from rfl]
      rw [if_neg (by decide), if_pos ⟨rfl, isNum_n hn h⟩, val_nat (by omega)]
      simp
    · rw [if_neg h]
      rw [show wA ([nl n.toNat] ++ vs) 0 = nl n.toNat from rfl, if_pos (isNum_c hn (by omega)), val_nat (by omega)]
      rfl
  | var s c =>
    obtain ⟨h1, h2⟩ := hp
    have ew : wdP (.var s c) = s :: plusW c := rfl
    have e2 := wA_plus (xs ++ [s]) vs hv h2
    have e3 : xs ++ [s] ++ (plusW c ++ vs) = xs ++ (s :: plusW c ++ vs) := by simp
    rw [e3, List.length_append, List.length_singleton] at e2
    rw [ew] at e0 e1 ⊢
    rw [show wA (s :: plusW c ++ vs) 0 = s from rfl] at e0
    unfold paR sgR
    rw [e0, name_notnum h1, if_neg (by simp), if_neg (fun z => name_sign h1 (by decide) z.1)]
    dsimp only
    rw [if_pos (show isName s = true from h1), e2]
    dsimp only
    rw [List.length_cons]
    congr 2
    omega
/-! the same -/
theorem same_str {z : Str} (h : PyData.strOk z = true) (k : Nat) (m : List Cell) : f_law_same (k + 1) [.str z, .str z] m = some (.bl true, m) := by
  show fnM 3 (b_law_same (f_law_same k)) _ _ = _
  generalize f_law_same k = rec
  unfold b_law_same
  simp [fnM_ap, h]
theorem same_int (i : Int) (k : Nat) (m : List Cell) : f_law_same (k + 1) [.int i, .int i] m = some (.bl true, m) := by
  show fnM 3 (b_law_same (f_law_same k)) _ _ = _
  generalize f_law_same k = rec
  unfold b_law_same
  simp [fnM_ap]
theorem same_non (k : Nat) (m : List Cell) : f_law_same (k + 1) [.non, .non] m = some (.bl true, m) := by
  show fnM 3 (b_law_same (f_law_same k)) _ _ = _
  generalize f_law_same k = rec
  unfold b_law_same
  simp [fnM_ap]
theorem same_loop (ds : List M.D) (rec : FF) (m : List Cell) (h : ∀ d ∈ ds, rec [d, d] m = some (.bl true, m)) : ∀ (n k : Nat) (x2 : M.Slot), k + n = ds.length → ∃ y2, M.forM (gNm 2) (l_law_same_1 rec) ((List.range' k n).map fun j : Nat => M.D.int (j : Int)) ⟨[.val (.tup ds), .val (.tup ds), x2], m⟩ = some (.nx, ⟨[.val (.tup ds), .val (.tup ds), y2], m⟩) := by
  intro n
  induction n with
  | zero => intro k x2 _; exact ⟨x2, rfl⟩
  | succ n ih =>
    intro k x2 hk
    obtain ⟨y2, e⟩ := ih (k + 1) (.val (.int (k : Int))) (by omega)
    refine ⟨y2, ?_⟩
    have hx : ds[k]? = some ds[k] := by simp
    have hi := atl hx
    have hr := h ds[k] (List.getElem_mem _)
    rw [← e, List.range'_succ, List.map_cons, forM_cons]
    generalize M.forM (gNm 2) (l_law_same_1 rec) ((List.range' (k + 1) n).map fun j : Nat => M.D.int (j : Int)) = K
    generalize ds[k] = d at hi hr
    unfold l_law_same_1
    simp [hi, hr]
theorem same_tup (ds : List M.D) (hl : ds.length ≤ 100) (k : Nat) (m : List Cell) (h : ∀ d ∈ ds, f_law_same k [d, d] m = some (.bl true, m)) : f_law_same (k + 1) [.tup ds, .tup ds] m = some (.bl true, m) := by
  obtain ⟨y2, e⟩ := same_loop ds (f_law_same k) m h ds.length 0 .emp (by omega)
  have r1 : iRg1 (eCallV gLen 1) ⟨[.val (.tup ds), .val (.tup ds), .emp], m⟩ = some ((List.range' 0 ds.length).map (fun j : Nat => M.D.int (j : Int)), ⟨[.val (.tup ds), .val (.tup ds), .emp], m⟩) := by
    have := iRg1_step (f := eCallV gLen 1) (S := ⟨[.val (.tup ds), .val (.tup ds), .emp], m⟩) (S' := ⟨[.val (.tup ds), .val (.tup ds), .emp], m⟩) (n := ds.length) (by simp) (by omega)
    rw [this, List.range_eq_range']
  generalize (List.range' 0 ds.length).map (fun j : Nat => M.D.int (j : Int)) = L at e r1
  show fnM 3 (b_law_same (f_law_same k)) _ _ = _
  generalize f_law_same k = rec at e
  unfold b_law_same
  simp [-iRg1_ap, fnM_ap, r1, e]
end Lk03



namespace Lk03
open PySem L2 M
/-! words with spaces -/
def GWd (w : List Nat) : Prop := Tk w ∧ Ok w ∧ w.length ≤ 100
def JJ : List Nat := [60, 62, 61, 33]
theorem lit_J : ("<>=!" : Str) = S JJ := by decide +kernel
def joinB (x d : Nat) : Bool := (decide (x ∈ LL) && decide (d ∈ LL)) || (decide (x ∈ DD) && decide (d ∈ DD)) || (decide (x ∈ JJ) && decide (d ∈ JJ))
theorem ix_last {a : List Nat} {x : Nat} (h : (a ++ [x]).length ≤ 1000000) : gIx (.str (S (a ++ [x]))) (.int (-1)) = some (.str (S [x])) := by
  rw [gIx_str, if_pos (by simpa using h), S_cps]
  have : atI (a ++ [x]) (-1) = some x := by
    have h2 : ((-1 : Int) + ((a.length : Int) + 1)).toNat = a.length := by omega
    unfold atI ixN
    simp [h2, show (1 : Int) ≤ (a.length : Int) + 1 by omega]
  rw [this]; rfl
theorem joins_ok {a b : List Nat} {x d : Nat} (h : (a ++ [x]).length ≤ 1000) (h2 : (d :: b).length ≤ 1000) (m : List Cell) : f_law_joins [.str (S (a ++ [x])), .str (S (d :: b))] m = some (.bl (joinB x d), m) := by
  have e1 := ix_last (a := a) (x := x) (by omega)
  have e2 := ixS (l := d :: b) (i := 0) (c := d) (by omega) rfl
  rw [show ((0 : Nat) : Int) = 0 from rfl] at e2
  generalize S (a ++ [x]) = A at e1 ⊢
  generalize S (d :: b) = B at e2 ⊢
  unfold f_law_joins b_law_joins joinB
  have hle := letters_ok m
  by_cases c1 : x ∈ LL
  · by_cases c2 : d ∈ LL
    · simp [fnM_ap, e1, e2, hle, inS, c1, c2]
    · have c3 : x ∉ DD := fun z => LD x z c1
      simp [fnM_ap, e1, e2, hle, inS, c1, c2, c3, lit_D, lit_J]
      cases decide (x ∈ JJ) <;> simp
  · by_cases c2 : x ∈ DD
    · by_cases c3 : d ∈ DD
      · simp [fnM_ap, e1, e2, hle, inS, c1, c2, c3, lit_D]
      · simp [fnM_ap, e1, e2, hle, inS, c1, c2, c3, lit_D, lit_J]
        cases decide (x ∈ JJ) <;> simp
    · simp [fnM_ap, e1, e2, hle, inS, c1, c2, lit_D, lit_J]
      cases decide (x ∈ JJ) <;> simp
theorem sep_join {a b V : List Nat} {x d : Nat} (h : joinB x d = false) : Sep (a ++ [x]) (d :: b ++ V) := by
  intro e he
  cases he
  unfold joinB at h
  simp only [Bool.or_eq_false_iff, Bool.and_eq_false_iff, decide_eq_false_iff_not] at h
  obtain ⟨⟨h1, h2⟩, h3⟩ := h
  refine ⟨fun z => h1.resolve_left (fun q => q (z x (by simp))), fun z => h2.resolve_left (fun q => q (z x (by simp))), fun c hc => ?_⟩
  have hx : x = c := by
    have := congrArg List.getLast? hc
    simpa using this
  subst hx
  intro hg
  obtain ⟨g1, g2⟩ : x ∈ JJ ∧ d ∈ JJ := by
    simp [GG] at hg
    rcases hg with ⟨rfl, rfl⟩ | ⟨rfl, rfl⟩ | ⟨rfl, rfl⟩ | ⟨rfl, rfl⟩ <;> decide
  rcases h3 with q | q
  · exact q g1
  · exact q g2
theorem spaced_step (ds : List Int) (p : Int) (hp : 0 ≤ p) (m : List Cell) {ws : List (List Nat)} (hw : ∀ w ∈ ws, GWd w) (hl : ws.length ≤ 4000) {k : Nat} (hk : k < ws.length) {T : List Nat} (hT : T.length ≤ 900000) (x4 : M.Slot) :
    ∃ (j : Nat) (p' : Int) (y4 : M.Slot), 0 ≤ p' ∧ j ≤ 6 ∧ (j = 0 → ∀ (h2 : k + 1 < ws.length) (V : List Nat), Sep ws[k] (ws[k + 1] ++ V)) ∧
      l_law_spaced_1 ⟨[.val (.ref 0), .val (.lst (ws.map encS)), .val (.str (S T)), .val (.int (k : Int)), x4], Hd ds p :: m⟩ = some (.nx, ⟨[.val (.ref 0), .val (.lst (ws.map encS)), .val (.str (S (T ++ ws[k] ++ List.replicate j 32))), .val (.int (k : Int)), y4], Hd ds p' :: m⟩) := by
  have hwk := hw ws[k] (List.getElem_mem _)
  have hi : atI (ws.map encS) (k : Int) = some (.str (S ws[k])) := atl (by simp [hk, encS])
  have hlen : ((ws.map encS).length : Int) = (ws.length : Int) := by simp
  have a1 := addS (a := T) (b := ws[k]) (by have := hwk.2.2; omega)
  obtain ⟨v1, c1, d1, e1⟩ := take_ok ds p hp 5 (by omega) (by omega) m
  obtain ⟨v2, c2, d2, e2⟩ := take_ok ds (p + 1) (by omega) 6 (by omega) (by omega) m
  obtain ⟨x, hx, hx2⟩ := atI_I (ns := [0, 0, 1, 1, 2, 2 + v1]) c2 (by simpa using d2)
  have hx' : atI [M.D.int 0, .int 0, .int 1, .int 1, .int 2, .int (2 + v1)] v2 = some (.int x) := hx
  have hm := List.mem_of_getElem? hx2
  simp only [List.mem_cons, List.not_mem_nil, or_false] at hm
  obtain ⟨n, rfl⟩ : ∃ n : Nat, x = (n : Int) := ⟨x.toNat, by omega⟩
  have am : ∀ j : Nat, j ≤ 6 → gAdd (.str (S (T ++ ws[k]))) (.str (S (List.replicate j 32))) = some (.str (S (T ++ ws[k] ++ List.replicate j 32))) := fun j hj => addS (by simp; have := hwk.2.2; omega)
  by_cases hn : n = 0
  · subst hn
    by_cases h2 : k + 1 < ws.length
    · have hw2 := hw ws[k + 1] (List.getElem_mem _)
      have hi2 : atI (ws.map encS) ((k : Int) + 1) = some (.str (S ws[k + 1])) := atl (i := k + 1) (by simp [h2, encS])
      obtain ⟨a, y, ea⟩ : ∃ a y, ws[k] = a ++ [y] := by
        rcases List.eq_nil_or_concat ws[k] with e | ⟨a, y, e⟩
        · exact absurd e hwk.1.1
        · exact ⟨a, y, by simpa using e⟩
      obtain ⟨d, b, eb⟩ : ∃ d b, ws[k + 1] = d :: b := by
        cases hh : ws[k + 1] with
        | nil => exact absurd hh hw2.1.1
        | cons d b => exact ⟨d, b, rfl⟩
      have hj := joins_ok (a := a) (b := b) (x := y) (d := d) (by rw [← ea]; have := hwk.2.2; omega) (by rw [← eb]; have := hw2.2.2; omega) (Hd ds (p + 1 + 1) :: m)
      rw [← ea, ← eb] at hj
      cases hb : joinB y d with
      | true =>
        rw [hb] at hj
        have a2 := am 1 (by omega)
        have m2 := mul4_sp 1 (by omega)
        refine ⟨1, p + 1 + 1, .val (.int 1), by omega, by omega, fun z => absurd z (by omega), ?_⟩
        rw [show ((1 : Nat) : Int) = 1 from rfl] at m2
        generalize ws.map encS = W at *
        generalize S (T ++ ws[k] ++ List.replicate 1 32) = Z at *
        generalize S (List.replicate 1 32) = Y at *
        generalize S (T ++ ws[k]) = X at *
        generalize S ws[k] = U at *
        generalize S ws[k + 1] = V at *
        unfold l_law_spaced_1
        simp [-gAdd_str, hi, a1, e1, e2, hx', hlen, show (k : Int) + 1 < ws.length by omega, hi2, hj, lit_sp, m2, a2]
      | false =>
        rw [hb] at hj
        have a2 := am 0 (by omega)
        have m2 := mul4_sp 0 (by omega)
        refine ⟨0, p + 1 + 1, .val (.int 0), by omega, by omega, fun _ h2 V => ?_, ?_⟩
        · rw [ea, eb]; exact sep_join hb
        · rw [show ((0 : Nat) : Int) = 0 from rfl] at m2
          generalize ws.map encS = W at *
          generalize S (T ++ ws[k] ++ List.replicate 0 32) = Z at *
          generalize S (List.replicate 0 32) = Y at *
          generalize S (T ++ ws[k]) = X at *
          generalize S ws[k] = U at *
          generalize S ws[k + 1] = V at *
          unfold l_law_spaced_1
          simp [-gAdd_str, hi, a1, e1, e2, hx', hlen, show (k : Int) + 1 < ws.length by omega, hi2, hj, lit_sp, m2, a2]
    · have a2 := am 0 (by omega)
      have m2 := mul4_sp 0 (by omega)
      refine ⟨0, p + 1 + 1, .val (.int 0), by omega, by omega, fun _ h3 => absurd h3 h2, ?_⟩
      rw [show ((0 : Nat) : Int) = 0 from rfl] at m2
      generalize ws.map encS = W at *
      generalize S (T ++ ws[k] ++ List.replicate 0 32) = Z at *
      generalize S (List.replicate 0 32) = Y at *
      generalize S (T ++ ws[k]) = X at *
      generalize S ws[k] = U at *
      unfold l_law_spaced_1
      simp [-gAdd_str, hi, a1, e1, e2, hx', hlen, show ¬ (k : Int) + 1 < ws.length by omega, lit_sp, m2, a2]
  · have a2 := am n (by omega)
    have m2 := mul4_sp n (by omega)
    refine ⟨n, p + 1 + 1, .val (.int (n : Int)), by omega, by omega, fun z => absurd z hn, ?_⟩
    generalize ws.map encS = W at *
    generalize S (T ++ ws[k] ++ List.replicate n 32) = Z at *
    generalize S (List.replicate n 32) = Y at *
    generalize S (T ++ ws[k]) = X at *
    generalize S ws[k] = U at *
    unfold l_law_spaced_1
    simp [-gAdd_str, hi, a1, e1, e2, hx', hn, lit_sp, m2, a2]
theorem spaced_loop (ds : List Int) (m : List Cell) {ws : List (List Nat)} (hw : ∀ w ∈ ws, GWd w) (hl : ws.length ≤ 4000) : ∀ (n k : Nat) (p : Int) (T : List Nat) (x3 x4 : M.Slot), 0 ≤ p → k + n = ws.length → T.length ≤ 10 + 200 * k →
    ∃ (U : List Nat) (p' : Int) (y3 y4 : M.Slot), 0 ≤ p' ∧ Gw U (some (ws.drop k)) ∧ (∀ h : k < ws.length, ∃ V, U = ws[k] ++ V) ∧ (T ++ U).length ≤ 10 + 200 * ws.length ∧ (n = 0 → U = []) ∧
      M.forM (gNm 3) l_law_spaced_1 ((List.range' k n).map fun j : Nat => M.D.int (j : Int)) ⟨[.val (.ref 0), .val (.lst (ws.map encS)), .val (.str (S T)), x3, x4], Hd ds p :: m⟩ = some (.nx, ⟨[.val (.ref 0), .val (.lst (ws.map encS)), .val (.str (S (T ++ U))), y3, y4], Hd ds p' :: m⟩) := by
  intro n
  induction n with
  | zero =>
    intro k p T x3 x4 hp hk hT
    refine ⟨[], p, x3, x4, hp, ?_, fun h => absurd h (by omega), by simp; omega, fun _ => rfl, ?_⟩
    · rw [List.drop_of_length_le (by omega)]; exact .nil
    · rw [List.append_nil]; rfl
  | succ n ih =>
    intro k p T x3 x4 hp hk hT
    have hkl : k < ws.length := by omega
    have hwk := hw ws[k] (List.getElem_mem _)
    obtain ⟨j, p1, y4, hp1, hj, hs, e1⟩ := spaced_step ds p hp m hw hl hkl (T := T) (by omega) x4
    obtain ⟨U, p2, z3, z4, hp2, g1, g2, g3, g4, e2⟩ := ih (k + 1) p1 (T ++ ws[k] ++ List.replicate j 32) (.val (.int (k : Int))) y4 hp1 (by omega) (by have := hwk.2.2; simp; omega)
    refine ⟨ws[k] ++ (List.replicate j 32 ++ U), p2, z3, z4, hp2, ?_, fun _ => ⟨_, rfl⟩, ?_, fun z => absurd z (by omega), ?_⟩
    · have hsep : Sep ws[k] (List.replicate j 32 ++ U) := by
        cases j with
        | zero =>
          rw [List.replicate_zero, List.nil_append]
          by_cases h2 : k + 1 < ws.length
          · obtain ⟨V, rfl⟩ := g2 h2
            exact hs rfl h2 V
          · rw [g4 (by omega)]; exact sep_nil _
        | succ j => exact sep_by fun d hd => GG2 d (by cases hd; exact .inl rfl)
      have := gw_wordS hwk.1 hsep (gw_front g1 j)
      rw [List.drop_eq_getElem_cons hkl]
      exact this
    · rw [← List.append_assoc, ← List.append_assoc]; exact g3
    · rw [List.range'_succ, List.map_cons, forM_cons]
      show (l_law_spaced_1 ⟨[.val (.ref 0), .val (.lst (ws.map encS)), .val (.str (S T)), .val (.int (k : Int)), x4], Hd ds p :: m⟩).bind _ = _
      rw [e1, Option.bind_some]
      rw [show T ++ (ws[k] ++ (List.replicate j 32 ++ U)) = T ++ ws[k] ++ List.replicate j 32 ++ U by simp]
      exact e2
theorem spaced_ok (ds : List Int) (p : Int) (hp : 0 ≤ p) (m : List Cell) {ws : List (List Nat)} (hw : ∀ w ∈ ws, GWd w) (hl : ws.length ≤ 4000) : ∃ (U : List Nat) (p' : Int), 0 ≤ p' ∧ Gw U (some ws) ∧ U.length ≤ 900000 ∧ f_law_spaced [.ref 0, .lst (ws.map encS)] (Hd ds p :: m) = some (.str (S U), Hd ds p' :: m) := by
  obtain ⟨v, v0, v1, e1⟩ := take_ok ds p hp 6 (by omega) (by omega) m
  obtain ⟨n, hn⟩ : ∃ n : Nat, v / 3 = (n : Int) := ⟨(v / 3).toNat, by omega⟩
  have hm := mul4_sp n (by omega)
  obtain ⟨U, p', y3, y4, hp', g1, g2, g3, g4, e2⟩ := spaced_loop ds m hw hl ws.length 0 (p + 1) (List.replicate n 32) .emp .emp (by omega) (by omega) (by simp; omega)
  rw [List.drop_zero] at g1
  refine ⟨List.replicate n 32 ++ U, p', hp', gw_front g1 n, by omega, ?_⟩
  have hlen : ((ws.map encS).length : Int) = (ws.length : Int) := by simp
  have r1 : ∀ s1 s2 s3 : M.Slot, ∀ mm, iRg1 (eCallV gLen 1) ⟨[.val (.ref 0), .val (.lst (ws.map encS)), s1, s2, s3], mm⟩ = some ((List.range' 0 ws.length).map (fun j : Nat => M.D.int (j : Int)), ⟨[.val (.ref 0), .val (.lst (ws.map encS)), s1, s2, s3], mm⟩) := fun s1 s2 s3 mm => by
    have := iRg1_step (f := eCallV gLen 1) (S := ⟨[.val (.ref 0), .val (.lst (ws.map encS)), s1, s2, s3], mm⟩) (S' := ⟨[.val (.ref 0), .val (.lst (ws.map encS)), s1, s2, s3], mm⟩) (n := ws.length) (by simp) (by omega)
    rw [this, List.range_eq_range']
  generalize (List.range' 0 ws.length).map (fun j : Nat => M.D.int (j : Int)) = L at e2 r1
  generalize ws.map encS = W at *
  generalize S (List.replicate n 32 ++ U) = Z at *
  generalize S (List.replicate n 32) = Y at *
  unfold f_law_spaced b_law_spaced
  simp [-iRg1_ap, fnM_ap, e1, hn, lit_sp, hm, r1, e2]
/-! words that are spoilt -/
def tkB (w : List Nat) : Bool := !w.isEmpty && ((w.all fun c => decide (c ∈ LL)) || (w.all fun c => decide (c ∈ DD)) || decide (w ∈ GG) || (decide (w.length = 1) && w.all fun c => decide (c ∈ HH))) && decide (w.length ≤ 100) && w.all fun c => decide (c < 1000)
theorem tkB_ok {w : List Nat} (h : tkB w = true) : GWd w := by
  unfold tkB at h
  simp only [Bool.and_eq_true, Bool.or_eq_true, decide_eq_true_eq, List.all_eq_true, Bool.not_eq_true', List.isEmpty_eq_false_iff] at h
  obtain ⟨⟨⟨h1, h2⟩, h3⟩, h4⟩ := h
  refine ⟨⟨h1, ?_⟩, fun c hc => by have := h4 c hc; omega, h3⟩
  rcases h2 with ((h | h) | h) | ⟨h, h'⟩
  · exact .inl h
  · exact .inr (.inl h)
  · exact .inr (.inr (.inl h))
  · obtain ⟨c, rfl⟩ : ∃ c, w = [c] := by
      match w, h with
      | [c], _ => exact ⟨c, rfl⟩
    exact .inr (.inr (.inr ⟨c, h' c (by simp), rfl⟩))
theorem at_words (zs : List Str) (h : (zs.all fun z => tkB (un z)) = true) {v : Int} (h0 : 0 ≤ v) (h1 : v < zs.length) : ∃ w, atI (zs.map M.D.str) v = some (.str (S w)) ∧ GWd w := by
  have hl : v.toNat < zs.length := by omega
  rw [List.all_eq_true] at h
  have := h zs[v.toNat] (List.getElem_mem _)
  refine ⟨un zs[v.toNat], ?_, tkB_ok this⟩
  rw [atI_pos h0 (by simpa using h1), S_un]
  simp [hl]
def OD : List Str := ["a", "ab", "7", "0", "007", "12345678901", "-", "+", "[", "]", "(", ")", "and", "or", "not", "<", "==", "=", ",", ":", "abcdefghijklm"]
theorem cut_from (ds : List M.D) (k : Nat) (h : k ≤ ds.length) : cutD ds (some (k : Int)) none = ds.drop k := by
  unfold cutD
  rw [HT.sIx_nat, HT.sIx_none, Nat.min_eq_left h]
  exact List.take_of_length_le (by simp)
theorem cut_to (ds : List M.D) (k : Nat) (h : k ≤ ds.length) : cutD ds none (some (k : Int)) = ds.take k := by
  unfold cutD
  rw [HT.sIx_nat, HT.sIx_none, Nat.min_eq_left h]
  simp
theorem spoilt_ok (ds : List Int) (p : Int) (hp : 0 ≤ p) (m : List Cell) {ws : List (List Nat)} (hw : ∀ w ∈ ws, GWd w) (hl : ws.length ≤ 3900) (hl0 : 0 < ws.length) : ∃ (vs : List (List Nat)) (p' : Int), 0 ≤ p' ∧ (∀ w ∈ vs, GWd w) ∧ vs.length ≤ ws.length + 1 ∧ f_law_spoilt [.ref 0, .lst (ws.map encS)] (Hd ds p :: m) = some (.lst (vs.map encS), Hd ds p' :: m) := by
  obtain ⟨a, a0, a1, e1⟩ := take_ok ds p hp ws.length (by omega) (by omega) m
  obtain ⟨a, rfl⟩ : ∃ n : Nat, a = (n : Int) := ⟨a.toNat, by omega⟩
  have ha : a < ws.length := by omega
  obtain ⟨kd, k0, k1, e2⟩ := take_ok ds (p + 1) (by omega) 5 (by omega) (by omega) m
  obtain ⟨u, u0, u1, e3⟩ := take_ok ds (p + 1 + 1) (by omega) 21 (by omega) (by omega) m
  obtain ⟨w0, g0, gw0⟩ := at_words OD (by decide +kernel) u0 (by show u < 21; exact u1)
  have g0' : atI [M.D.str "a", .str "ab", .str "7", .str "0", .str "007", .str "12345678901", .str "-", .str "+", .str "[", .str "]", .str "(", .str ")", .str "and", .str "or", .str "not", .str "<", .str "==", .str "=", .str ",", .str ":", .str "abcdefghijklm"] u = some (.str (S w0)) := g0
  obtain ⟨r, r0, r1, e4⟩ := take_ok ds (p + 1 + 1 + 1) (by omega) 3 (by omega) (by omega) m
  have hlen : ((ws.map encS).length : Int) = (ws.length : Int) := by simp
  have hlenN : (ws.map encS).length = ws.length := by simp
  have hia : atI (ws.map encS) (a : Int) = some (.str (S ws[a])) := atl (by simp [ha, encS])
  -- the word put in
  have hword : ∃ (w : List Nat) (p4 : Int), 0 ≤ p4 ∧ GWd w ∧ ∀ x6 x7 : M.Slot, t_law_spoilt_9 ⟨[.val (.ref 0), .val (.lst (ws.map encS)), .val (.lst [M.D.str "a", .str "ab", .str "7", .str "0", .str "007", .str "12345678901", .str "-", .str "+", .str "[", .str "]", .str "(", .str ")", .str "and", .str "or", .str "not", .str "<", .str "==", .str "=", .str ",", .str ":", .str "abcdefghijklm"]), .val (.int (a : Int)), .val (.int kd), .val (.str (S w0)), x6, x7], Hd ds (p + 1 + 1 + 1) :: m⟩ = t_law_spoilt_8 ⟨[.val (.ref 0), .val (.lst (ws.map encS)), .val (.lst [M.D.str "a", .str "ab", .str "7", .str "0", .str "007", .str "12345678901", .str "-", .str "+", .str "[", .str "]", .str "(", .str ")", .str "and", .str "or", .str "not", .str "<", .str "==", .str "=", .str ",", .str ":", .str "abcdefghijklm"]), .val (.int (a : Int)), .val (.int kd), .val (.str (S w)), x6, x7], Hd ds p4 :: m⟩ := by
    by_cases c : r = 0
    · obtain ⟨v, v0, v1, e5⟩ := take_ok ds (p + 1 + 1 + 1 + 1) (by omega) 27 (by omega) (by omega) m
      obtain ⟨w1, g1, gw1⟩ := at_words RS (by decide +kernel) v0 (by show v < 27; exact v1)
      refine ⟨w1, p + 1 + 1 + 1 + 1 + 1, by omega, gw1, fun x6 x7 => ?_⟩
      have hr := reserved_ok (Hd ds (p + 1 + 1 + 1 + 1) :: m)
      generalize RS.map M.D.str = R at hr g1
      generalize ws.map encS = W
      generalize M.D.lst [M.D.str "a", .str "ab", .str "7", .str "0", .str "007", .str "12345678901", .str "-", .str "+", .str "[", .str "]", .str "(", .str ")", .str "and", .str "or", .str "not", .str "<", .str "==", .str "=", .str ",", .str ":", .str "abcdefghijklm"] = O
      rw [t_law_spoilt_9_ap]
      generalize t_law_spoilt_8 = tl
      revert tl
      refine opq ?_
      intro tl
      simp [e4, c, hr, e5, g1]
    · refine ⟨w0, p + 1 + 1 + 1 + 1, by omega, gw0, fun x6 x7 => ?_⟩
      generalize ws.map encS = W
      generalize M.D.lst [M.D.str "a", .str "ab", .str "7", .str "0", .str "007", .str "12345678901", .str "-", .str "+", .str "[", .str "]", .str "(", .str ")", .str "and", .str "or", .str "not", .str "<", .str "==", .str "=", .str ",", .str ":", .str "abcdefghijklm"] = O
      rw [t_law_spoilt_9_ap]
      generalize t_law_spoilt_8 = tl
      revert tl
      refine opq ?_
      intro tl
      simp [e4, c]
  obtain ⟨w, p4, hp4, hgw, e5⟩ := hword
  have t1 := cut_to (ws.map encS) a (by omega)
  have t2 := cut_from (ws.map encS) a (by omega)
  have t3 := cut_from (ws.map encS) (a + 1) (by omega)
  rw [show ((a + 1 : Nat) : Int) = (a : Int) + 1 from rfl] at t3
  have l1 : ((ws.map encS).take a).length = a := by rw [List.length_take]; omega
  have l2 : ((ws.map encS).drop a).length = ws.length - a := by rw [List.length_drop]; omega
  have l3 : ((ws.map encS).drop (a + 1)).length = ws.length - (a + 1) := by rw [List.length_drop]; omega
  have mt : ∀ w ∈ ws.take a, GWd w := fun w h => hw w (List.mem_of_mem_take h)
  have md : ∀ k, ∀ w ∈ ws.drop k, GWd w := fun k w h => hw w (List.mem_of_mem_drop h)
  have fin : ∃ (vs : List (List Nat)) (p' : Int) (R : List M.Slot), 0 ≤ p' ∧ (∀ w ∈ vs, GWd w) ∧ vs.length ≤ ws.length + 1 ∧ t_law_spoilt_8 ⟨[.val (.ref 0), .val (.lst (ws.map encS)), .val (.lst [M.D.str "a", .str "ab", .str "7", .str "0", .str "007", .str "12345678901", .str "-", .str "+", .str "[", .str "]", .str "(", .str ")", .str "and", .str "or", .str "not", .str "<", .str "==", .str "=", .str ",", .str ":", .str "abcdefghijklm"]), .val (.int (a : Int)), .val (.int kd), .val (.str (S w)), .emp, .emp], Hd ds p4 :: m⟩ = some (.rt (.lst (vs.map encS)), ⟨R, Hd ds p' :: m⟩) := by
    generalize M.D.lst [M.D.str "a", .str "ab", .str "7", .str "0", .str "007", .str "12345678901", .str "-", .str "+", .str "[", .str "]", .str "(", .str ")", .str "and", .str "or", .str "not", .str "<", .str "==", .str "=", .str ",", .str ":", .str "abcdefghijklm"] = O
    by_cases c0 : kd = 0
    · refine ⟨ws.take a ++ ws.drop (a + 1), p4, [.val (.ref 0), .val (.lst (ws.map encS)), .val O, .val (.int (a : Int)), .val (.int kd), .val (.str (S w)), .emp, .emp], hp4, fun v hv => (List.mem_append.mp hv).elim (mt v) (md _ v), by simp; omega, ?_⟩
      rw [List.map_append, List.map_take, List.map_drop]
      generalize ws.map encS = W at *
      rw [t_law_spoilt_8_ap]
      simp [c0, t1, t3, l1, l3, show a + (ws.length - (a + 1)) ≤ 1000000 by omega, hlenN]
      try omega
    · by_cases c1 : kd = 1
      · refine ⟨ws.take a ++ [ws[a]] ++ ws.drop a, p4, [.val (.ref 0), .val (.lst (ws.map encS)), .val O, .val (.int (a : Int)), .val (.int kd), .val (.str (S w)), .emp, .emp], hp4, fun v hv => ?_, by simp; omega, ?_⟩
        · rcases List.mem_append.mp hv with hv | hv
          · rcases List.mem_append.mp hv with hv | hv
            · exact mt v hv
            · simp at hv; subst hv; exact hw _ (List.getElem_mem _)
          · exact md _ v hv
        · rw [List.map_append, List.map_append, List.map_take, List.map_drop, show [ws[a]].map encS = [.str (S ws[a])] from rfl]
          generalize S ws[a] = X at *
          generalize ws.map encS = W at *
          rw [t_law_spoilt_8_ap]
          simp [c1, t1, t2, hia, l1, l2, hlenN, show a ≤ 999999 by omega, show a + 1 + (ws.length - a) ≤ 1000000 by omega]
          try omega
      · by_cases c2 : kd = 2
        · refine ⟨ws.take a ++ [w] ++ ws.drop a, p4, [.val (.ref 0), .val (.lst (ws.map encS)), .val O, .val (.int (a : Int)), .val (.int kd), .val (.str (S w)), .emp, .emp], hp4, fun v hv => ?_, by simp; omega, ?_⟩
          · rcases List.mem_append.mp hv with hv | hv
            · rcases List.mem_append.mp hv with hv | hv
              · exact mt v hv
              · simp at hv; subst hv; exact hgw
            · exact md _ v hv
          · rw [List.map_append, List.map_append, List.map_take, List.map_drop, show [w].map encS = [.str (S w)] from rfl]
            generalize ws.map encS = W at *
            rw [t_law_spoilt_8_ap]
            simp [c2, t1, t2, l1, l2, hlenN, show a ≤ 999999 by omega, show a + 1 + (ws.length - a) ≤ 1000000 by omega]
            try omega
        · by_cases c3 : kd = 3
          · refine ⟨ws.take a ++ [w] ++ ws.drop (a + 1), p4, [.val (.ref 0), .val (.lst (ws.map encS)), .val O, .val (.int (a : Int)), .val (.int kd), .val (.str (S w)), .emp, .emp], hp4, fun v hv => ?_, by simp; omega, ?_⟩
            · rcases List.mem_append.mp hv with hv | hv
              · rcases List.mem_append.mp hv with hv | hv
                · exact mt v hv
                · simp at hv; subst hv; exact hgw
              · exact md _ v hv
            · rw [List.map_append, List.map_append, List.map_take, List.map_drop, show [w].map encS = [.str (S w)] from rfl]
              generalize ws.map encS = W at *
              rw [t_law_spoilt_8_ap]
              simp [c3, t1, t3, l1, l3, hlenN, show a ≤ 999999 by omega, show a + 1 + (ws.length - (a + 1)) ≤ 1000000 by omega]
              try omega
          · obtain ⟨b, b0, b1, e6⟩ := take_ok ds p4 hp4 ws.length (by omega) (by omega) m
            obtain ⟨b, rfl⟩ : ∃ n : Nat, b = (n : Int) := ⟨b.toNat, by omega⟩
            have hb : b < ws.length := by omega
            have hib : atI (ws.map encS) (b : Int) = some (.str (S ws[b])) := atl (by simp [hb, encS])
            have x1 : ixN (ws.map encS).length (a : Int) = some a := ixN_nat (by omega)
            have x2 : ixN ((ws.map encS).set a (.str (S ws[b]))).length (b : Int) = some b := ixN_nat (by rw [List.length_set]; omega)
            refine ⟨(ws.set a ws[b]).set b ws[a], p4 + 1, [.val (.ref 0), .val (.lst (ws.map encS)), .val O, .val (.int (a : Int)), .val (.int kd), .val (.str (S w)), .val (.int (b : Int)), .val (.lst (((ws.set a ws[b]).set b ws[a]).map encS))], by omega, fun v hv => ?_, by simp, ?_⟩
            · rcases List.mem_or_eq_of_mem_set hv with hv | rfl
              · rcases List.mem_or_eq_of_mem_set hv with hv | rfl
                · exact hw v hv
                · exact hw _ (List.getElem_mem _)
              · exact hw _ (List.getElem_mem _)
            · rw [List.map_set, List.map_set, show encS ws[b] = .str (S ws[b]) from rfl, show encS ws[a] = .str (S ws[a]) from rfl]
              generalize S ws[a] = X at *
              generalize S ws[b] = Y at *
              generalize ws.map encS = W at *
              rw [hlenN] at x1
              rw [List.length_set, hlenN] at x2
              rw [t_law_spoilt_8_ap]
              simp [c0, c1, c2, c3, hlen, hlenN, e6, hia, hib, x1, x2]
  obtain ⟨vs, p', R, hp', hv, hvl, e6⟩ := fin
  refine ⟨vs, p', hp', hv, hvl, ?_⟩
  rw [← e5] at e6
  unfold f_law_spoilt b_law_spoilt
  generalize ws.map encS = W at *
  rw [fnM_ap]
  simp only [t_law_spoilt_13_ap, t_law_spoilt_12_ap, t_law_spoilt_11_ap, t_law_spoilt_10_ap, sSeq_ap]
  generalize t_law_spoilt_9 = tl at e6
  simp [hlen, e1, e2, e3, g0', e6]
end Lk03



namespace Lk03
open PySem L2 M
/-! not in -/
theorem inStrs_tN (a : List Nat) (zs : List (List Nat)) : gIn3 true (.str (S a)) (.tup (zs.map fun l => .str (S l))) = some (.bl (!decide (a ∈ zs))) := by
  rw [gIn3_tup]
  unfold gIn gInL gInT
  have h1 : (zs.map fun l => M.D.str (S l)).all flatD = true := by simp [flatD]
  simp only [Option.none_or]
  rw [if_pos ⟨rfl, h1⟩, List.any_map]
  simp only [Function.comp_def, eqF_S, if_true]
  congr 3
  rw [List.any_eq, decide_eq_decide]
  simp
theorem inStrs_lN {a : List Nat} (ha : Ok a) {zs : List (List Nat)} (hz : ∀ z ∈ zs, Ok z) : gIn3 true (.str (S a)) (.lst (zs.map fun l => .str (S l))) = some (.bl (!decide (a ∈ zs))) := by
  obtain ⟨ps, h1, h2, h3, h4⟩ := shaped_strs hz
  rw [gIn3_lst]
  unfold gIn gInL gInT
  have s1 : SeqAt.shaped (.str (S a)) = true := shaped_str ha.so
  have s2 : SeqAt.shaped (.list ps) = true := by
    unfold SeqAt.shaped
    rw [show PyData.canLay0 (.list ps) = true by simpa [PyData.canLay0] using h2, decide_eq_true (by simp only [PyData.depth]; omega)]; rfl
  simp only [toPy, h1, Option.bind_some]
  rw [if_pos ⟨s1, s2⟩, h4]
  simp only [Option.some_or, if_true, List.any_map, Function.comp_def, PyData.eqv, Bool.beq_eq_decide_eq, S_inj]
  congr 3
  rw [List.any_eq, decide_eq_decide]
  simp
def SG : List Str := ["<", "<=", ">", ">=", "==", "!="]
def SGS : List (List Nat) := SG.map un
theorem ok_un {zs : List Str} (h : (zs.all fun z => PyData.strOk z) = true) : ∀ z ∈ zs.map un, Ok z := by
  intro z hz
  obtain ⟨y, hy, rfl⟩ := List.mem_map.mp hz
  rw [List.all_eq_true] at h
  exact ok_of (h y hy)
theorem sg_t (u : List Nat) : gIn3 true (.str (S u)) (.tup [M.D.str "<", .str "<=", .str ">", .str ">=", .str "==", .str "!="]) = some (.bl (!decide (u ∈ SGS))) := by
  have e : ([M.D.str "<", .str "<=", .str ">", .str ">=", .str "==", .str "!="] : List M.D) = SGS.map fun l => .str (S l) := strs_enc SG
  rw [e]; exact inStrs_tN u SGS
theorem sg_l {u : List Nat} (hu : Ok u) : gIn3 true (.str (S u)) (.lst [M.D.str "<", .str "<=", .str ">", .str ">=", .str "==", .str "!="]) = some (.bl (!decide (u ∈ SGS))) := by
  have e : ([M.D.str "<", .str "<=", .str ">", .str ">=", .str "==", .str "!="] : List M.D) = SGS.map fun l => .str (S l) := strs_enc SG
  rw [e]; exact inStrs_lN hu (ok_un (by decide +kernel))
def NOT : List Nat := [110, 111, 116]
def AND : List Nat := [97, 110, 100]
def ORR : List Nat := [111, 114]
theorem lit_not : ("not" : Str) = S NOT := by decide +kernel
theorem lit_and : ("and" : Str) = S AND := by decide +kernel
theorem lit_or : ("or" : Str) = S ORR := by decide +kernel
theorem lit_o : ("(" : Str) = S [40] := by decide +kernel
theorem lit_c : (")" : Str) = S [41] := by decide +kernel
theorem ok_NOT : Ok NOT := ok_small (by decide)
theorem ok_AND : Ok AND := ok_small (by decide)
theorem ok_ORR : Ok ORR := ok_small (by decide)
theorem no_t (u : List Nat) : gIn3 true (.str (S u)) (.tup [.str (S NOT), .str (S [40])]) = some (.bl (!decide (u = NOT ∨ u = [40]))) := by
  have e := inStrs_tN u [NOT, [40]]
  have h2 : decide (u ∈ [NOT, [40]]) = decide (u = NOT ∨ u = [40]) := by simp
  rw [h2] at e; exact e
theorem no_l {u : List Nat} (hu : Ok u) : gIn3 true (.str (S u)) (.lst [.str (S NOT), .str (S [40])]) = some (.bl (!decide (u = NOT ∨ u = [40]))) := by
  have e := inStrs_lN hu (zs := [NOT, [40]]) (fun z hz => by
    simp only [List.mem_cons, List.not_mem_nil, or_false] at hz
    rcases hz with rfl | rfl
    · exact ok_NOT
    · exact ok1 (by omega))
  have h2 : decide (u ∈ [NOT, [40]]) = decide (u = NOT ∨ u = [40]) := by simp
  rw [h2] at e; exact e
/-! what is read is behind -/
section
variable {ws : List (List Nat)} (hw : WsOk ws)
include hw
theorem sgR_go {a : Nat} {v : Int} {b : Nat} (h : sgR ws a = some (v, b)) : a < b ∧ b ≤ ws.length := by
  unfold sgR at h
  split at h
  · rename_i c
    cases h
    have := num_in hw c
    omega
  · split at h
    · rename_i c
      cases h
      have := num_in hw c.2
      omega
    · cases h
theorem plR_go {a : Nat} {v : Int} {b : Nat} (h : plR ws a = some (v, b)) : a ≤ b ∧ (a ≤ ws.length → b ≤ ws.length) := by
  unfold plR at h
  split at h
  · split at h
    · rename_i c
      cases h
      have := num_in hw c
      omega
    · cases h
  · cases h; omega
theorem paR_go {a : Nat} {v : Pe} {b : Nat} (h : paR ws a = some (v, b)) : a < b ∧ b ≤ ws.length := by
  unfold paR at h
  split at h
  · rename_i e
    cases h
    exact sgR_go hw e
  · split at h
    · rename_i c
      split at h
      · cases h
      · rename_i e
        cases h
        have h1 := plR_go hw e
        have h2 := name_in hw c
        exact ⟨by omega, h1.2 (by omega)⟩
    · cases h
theorem exR_go {a : Nat} {v : Ex} {b : Nat} (h : exR ws a = some (v, b)) : a < b ∧ b ≤ ws.length := by
  unfold exR at h
  split at h
  · split at h
    · cases h
    · rename_i e
      have h1 := paR_go hw e
      split at h
      · rename_i c
        split at h
        · cases h
        · rename_i e2
          cases h
          have h2 := plR_go hw e2
          have h3 := one_in hw c
          exact ⟨by omega, h2.2 (by omega)⟩
      · cases h
  · split at h
    · cases h
    · rename_i e
      cases h
      exact paR_go hw e
end
/-! comparisons -/
def encT : Option (M.D × Nat) → M.D
  | none => .non
  | some (d, b) => .tup [d, .int (b : Int)]
def encL : Option (M.D × Nat) → M.D
  | none => .non
  | some (d, b) => .lst [d, .int (b : Int)]
def cmD (u : List Nat) (l r : Ex) : M.D := .tup [.str "cmp", .str (S u), encE l, encE r]
def cmpR (ws : List (List Nat)) (a : Nat) : Option (M.D × Nat) := match exR ws a with
  | none => none
  | some (l, b) => if wA ws b ∈ SGS then match exR ws (b + 1) with
    | none => none
    | some (r, e) => some (cmD (wA ws b) l r, e) else none
theorem sgs_in {ws : List (List Nat)} {b : Nat} (h : wA ws b ∈ SGS) : b < ws.length := by
  apply Decidable.byContradiction
  intro z
  rw [wA_out z] at h
  exact absurd h (by decide +kernel)
theorem cmp_ok {ws : List (List Nat)} (hw : WsOk ws) (m : List Cell) (a : Nat) : f_comparison_at [.lst (ws.map encS), .int (a : Int)] m = some (encT (cmpR ws a), m) ∧ f_law_read_cmp [.lst (ws.map encS), .int (a : Int)] m = some (encL (cmpR ws a), m) := by
  obtain ⟨s1, s2⟩ := expr_ok hw m a
  have hl := len_W hw
  unfold cmpR
  cases hx : exR ws a with
  | none =>
    rw [hx] at s1 s2
    unfold eX at s1
    unfold eXl at s2
    dsimp only at s1 s2 ⊢
    generalize ws.map encS = W at *
    refine ⟨?_, ?_⟩
    · unfold f_comparison_at b_comparison_at
      simp [fnM_ap, s1, encT]
    · unfold f_law_read_cmp b_law_read_cmp
      simp [fnM_ap, s2, encL]
  | some lb =>
    obtain ⟨l, b⟩ := lb
    rw [hx] at s1 s2
    unfold eX at s1
    unfold eXl at s2
    dsimp only at s1 s2 ⊢
    have w1 := word_at_ok hw m b
    have g1 := sg_t (wA ws b)
    have g2 := sg_l (wA_ok hw b).1
    obtain ⟨t1, t2⟩ := expr_ok hw m (b + 1)
    rw [show (((b + 1 : Nat)) : Int) = (b : Int) + 1 from rfl] at t1 t2
    by_cases c : wA ws b ∈ SGS
    · rw [if_pos c]
      rw [decide_eq_true c] at g1 g2
      have hb := sgs_in c
      have e1 := wA_in hb
      cases hy : exR ws (b + 1) with
      | none =>
        rw [hy] at t1 t2
        unfold eX at t1
        unfold eXl at t2
        dsimp only at t1 t2 ⊢
        generalize ws.map encS = W at *
        generalize S (wA ws b) = U at *
        generalize encE l = E1 at *
        refine ⟨?_, ?_⟩
        · unfold f_comparison_at b_comparison_at
          simp [fnM_ap, s1, w1, g1, t1, encT]
        · unfold f_law_read_cmp b_law_read_cmp
          simp [fnM_ap, hl, s2, show ¬ ws.length ≤ b by omega, e1, g2, t2, encL]
      | some re =>
        obtain ⟨r, e⟩ := re
        rw [hy] at t1 t2
        unfold eX at t1
        unfold eXl at t2
        dsimp only at t1 t2 ⊢
        unfold encT encL cmD
        dsimp only
        generalize ws.map encS = W at *
        generalize S (wA ws b) = U at *
        generalize encE l = E1 at *
        generalize encE r = E2 at *
        refine ⟨?_, ?_⟩
        · unfold f_comparison_at b_comparison_at
          simp [fnM_ap, s1, w1, g1, t1, e1]
        · unfold f_law_read_cmp b_law_read_cmp
          simp [fnM_ap, hl, s2, show ¬ ws.length ≤ b by omega, e1, g2, t2]
    · rw [if_neg c]
      rw [decide_eq_false c] at g1 g2
      refine ⟨?_, ?_⟩
      · generalize ws.map encS = W at *
        generalize S (wA ws b) = U at *
        generalize encE l = E1 at *
        unfold f_comparison_at b_comparison_at
        simp [fnM_ap, s1, w1, g1, encT]
      · unfold f_law_read_cmp b_law_read_cmp
        by_cases hb : b < ws.length
        · have e1 := wA_in hb
          generalize ws.map encS = W at *
          generalize S (wA ws b) = U at *
          generalize encE l = E1 at *
          simp [fnM_ap, hl, s2, show ¬ ws.length ≤ b by omega, e1, g2, encL]
        · generalize ws.map encS = W at *
          generalize encE l = E1 at *
          simp [fnM_ap, hl, s2, show ws.length ≤ b by omega, encL]
/-! parts that a word joins -/
section
variable (ws : List (List Nat))
def seqT (rd : Nat → Option (M.D × Nat)) (kw : List Nat) : Nat → Nat → Option (List M.D × Nat)
  | 0, b => if wA ws b = kw then none else some ([], b)
  | k + 1, b => if wA ws b = kw then match rd (b + 1) with
      | none => none
      | some (d, e) => (seqT rd kw k e).map fun p => (d :: p.1, p.2)
    else some ([], b)
def seqR (rd : Nat → Option (M.D × Nat)) (kw : List Nat) (k a : Nat) : Option (List M.D × Nat) := match rd a with
  | none => none
  | some (d, b) => (seqT ws rd kw k b).map fun p => (d :: p.1, p.2)
def joinD (kw : List Nat) (ds : List M.D) : M.D := if ds.length = 1 then ds.headD .non else .tup [.str (S kw), .tup ds]
def joS (rd : Nat → Option (M.D × Nat)) (kw : List Nat) (a : Nat) : Option (M.D × Nat) := (seqR ws rd kw ws.length a).map fun p => (joinD kw p.1, p.2)
def partR : Nat → Nat → Option (M.D × Nat)
  | 0, a => if wA ws a = NOT ∨ wA ws a = [40] then none else cmpR ws a
  | q + 1, a => if wA ws a = NOT then match partR q (a + 1) with
      | none => none
      | some (d, b) => some (.tup [.str (S NOT), d], b)
    else if wA ws a = [40] then match joS ws (joS ws (partR q) AND) ORR (a + 1) with
      | none => none
      | some (d, b) => if wA ws b = [41] then some (d, b + 1) else none
    else cmpR ws a
def Go (rd : Nat → Option (M.D × Nat)) : Prop := ∀ a d b, rd a = some (d, b) → a < b ∧ b ≤ ws.length
variable {ws} (hw : WsOk ws)
theorem seqT_go {rd : Nat → Option (M.D × Nat)} (hr : Go ws rd) (kw : List Nat) : ∀ (k b : Nat) (ds : List M.D) (z : Nat), b ≤ ws.length → seqT ws rd kw k b = some (ds, z) → b ≤ z ∧ z ≤ ws.length ∧ ds.length ≤ k
  | 0, b, ds, z, hb, h => by
    unfold seqT at h
    split at h
    · cases h
    · cases h; exact ⟨by omega, hb, by simp⟩
  | k + 1, b, ds, z, hb, h => by
    unfold seqT at h
    split at h
    · split at h
      · cases h
      · rename_i d e he
        obtain ⟨⟨ds', z'⟩, h1, h2⟩ := Option.map_eq_some_iff.mp h
        cases h2
        have g := hr _ _ _ he
        have := seqT_go hr kw k e _ _ g.2 h1
        exact ⟨by omega, this.2.1, by simp; omega⟩
    · cases h; exact ⟨by omega, hb, by simp⟩
theorem joS_go {rd : Nat → Option (M.D × Nat)} (hr : Go ws rd) (kw : List Nat) : Go ws (joS ws rd kw) := by
  intro a d b h
  unfold joS seqR at h
  obtain ⟨⟨ds, z⟩, h1, h2⟩ := Option.map_eq_some_iff.mp h
  cases h2
  split at h1
  · cases h1
  · rename_i d' b' he
    obtain ⟨⟨ds', z'⟩, h3, h4⟩ := Option.map_eq_some_iff.mp h1
    cases h4
    have g := hr _ _ _ he
    have := seqT_go hr kw _ _ _ _ g.2 h3
    exact ⟨by omega, this.2.1⟩
include hw
theorem cmpR_go : Go ws (cmpR ws) := by
  intro a d b h
  unfold cmpR at h
  split at h
  · cases h
  · rename_i e1
    split at h
    · split at h
      · cases h
      · rename_i e2
        cases h
        have g1 := exR_go hw e1
        have g2 := exR_go hw e2
        exact ⟨by omega, g2.2⟩
    · cases h
theorem partR_go : ∀ q, Go ws (partR ws q)
  | 0 => by
    intro a d b h
    unfold partR at h
    split at h
    · cases h
    · exact cmpR_go hw _ _ _ h
  | q + 1 => by
    intro a d b h
    unfold partR at h
    split at h
    · split at h
      · cases h
      · rename_i e
        cases h
        have := partR_go q _ _ _ e
        exact ⟨by omega, this.2⟩
    · split at h
      · split at h
        · cases h
        · rename_i e
          split at h
          · rename_i c
            cases h
            have := joS_go (joS_go (partR_go q) AND) ORR _ _ _ e
            have := one_in hw c
            exact ⟨by omega, by omega⟩
          · cases h
      · exact cmpR_go hw _ _ _ h
end
theorem joined_ok (kw : List Nat) (ds : List M.D) (h0 : 0 < ds.length) (h : ds.length ≤ 20000) (m : List Cell) : f_joined [.str (S kw), .lst ds] m = some (joinD kw ds, m) := by
  unfold f_joined b_joined joinD
  by_cases c : ds.length = 1
  · obtain ⟨d, rfl⟩ : ∃ d, ds = [d] := by
      match ds, c with
      | [d], _ => exact ⟨d, rfl⟩
    simp [fnM_ap]
  · rw [if_neg c]
    simp [fnM_ap, show ¬ (ds.length : Int) = 1 by omega]
end Lk03



namespace Lk03
open PySem L2 M

theorem and_at_while {ws : List (List Nat)} (hw : WsOk ws) (m : List Cell) (a op : M.D) (r1 r2 r3 : FF) (opn : Int) (hop : op = .int opn) (rd : Nat → Option (M.D × Nat)) (hr : Go ws rd) (h : ∀ b : Nat, r1 [.lst (ws.map encS), .int (b : Int), op] m = some (encT (rd b), m)) :
    ∀ (k fuel b : Nat) (d : M.D) (acc : List M.D), b ≤ ws.length → ws.length - b ≤ k → k < fuel → acc.length + k ≤ 20000 → ∃ y3 y4, whileM (bOf (eOp gEq (eFn 2 f_word_at (aCons (eVar 0) (aCons (eOpL gIx 3 (eC (.int 1))) aNil))) (eC (.str "and")))) (l_and_at_1 r1 r2 r3) fuel ⟨[.val (.lst (ws.map encS)), .val a, .val op, .val (.tup [d, .int (b : Int)]), .own (.lst acc)], m⟩ = some (if (seqT ws rd AND k b).isSome then .nx else .rt .non, ⟨[.val (.lst (ws.map encS)), .val a, .val op, y3, y4], m⟩) ∧
      ∀ ds z, seqT ws rd AND k b = some (ds, z) → ∃ d', y3 = .val (.tup [d', .int (z : Int)]) ∧ y4 = .own (.lst (acc ++ ds)) := by
  subst hop
  intro k
  induction k with
  | zero =>
    intro fuel b d acc hb hk hf ha
    obtain ⟨fuel, rfl⟩ : ∃ f, fuel = f + 1 := ⟨fuel - 1, by omega⟩
    have w1 := word_at_ok hw m b
    have hq := eqS (wA_ok hw b).1 ok_AND
    have hne : ¬ wA ws b = AND := fun z => by rw [wA_out (by omega)] at z; cases z
    rw [decide_eq_false hne] at hq
    have hs : seqT ws rd AND 0 b = some ([], b) := by unfold seqT; rw [if_neg hne]
    rw [hs]
    refine ⟨.val (.tup [d, .int (b : Int)]), .own (.lst acc), ?_, fun ds z e => by cases e; exact ⟨d, rfl, by simp⟩⟩
    unfold whileM
    generalize ws.map encS = W at *
    generalize S (wA ws b) = U at *
    simp [w1, lit_and, hq]
  | succ k ih =>
    intro fuel b d acc hb hk hf ha
    obtain ⟨fuel, rfl⟩ : ∃ f, fuel = f + 1 := ⟨fuel - 1, by omega⟩
    have w1 := word_at_ok hw m b
    have hq := eqS (wA_ok hw b).1 ok_AND
    by_cases c : wA ws b = AND
    · rw [decide_eq_true c] at hq
      have hx := h (b + 1)
      rw [show (((b + 1 : Nat)) : Int) = (b : Int) + 1 from rfl] at hx
      cases hd : rd (b + 1) with
      | none =>
        rw [hd] at hx
        have hs : seqT ws rd AND (k + 1) b = none := by unfold seqT; rw [if_pos c, hd]
        rw [hs]
        unfold encT at hx
        dsimp only at hx
        refine ⟨.val .non, .own (.lst acc), ?_, fun ds z e => by cases e⟩
        unfold whileM
        generalize whileM (bOf (eOp gEq (eFn 2 f_word_at (aCons (eVar 0) (aCons (eOpL gIx 3 (eC (.int 1))) aNil))) (eC (.str "and")))) (l_and_at_1 r1 r2 r3) fuel = Kk
        generalize ws.map encS = W at *
        generalize S (wA ws b) = U at *
        unfold l_and_at_1
        simp [w1, lit_and, hq, hx]
      | some de =>
        obtain ⟨d2, e⟩ := de
        rw [hd] at hx
        have g := hr _ _ _ hd
        have hs : seqT ws rd AND (k + 1) b = (seqT ws rd AND k e).map fun p => (d2 :: p.1, p.2) := by
          conv => lhs; unfold seqT
          rw [if_pos c, hd]
        obtain ⟨y3, y4, i1, i2⟩ := ih fuel e d2 (acc ++ [d2]) g.2 (by omega) (by omega) (by simp; omega)
        unfold encT at hx
        dsimp only at hx
        refine ⟨y3, y4, ?_, fun ds z e' => ?_⟩
        · rw [hs, Option.isSome_map, ← i1]
          conv => lhs; unfold whileM
          generalize whileM (bOf (eOp gEq (eFn 2 f_word_at (aCons (eVar 0) (aCons (eOpL gIx 3 (eC (.int 1))) aNil))) (eC (.str "and")))) (l_and_at_1 r1 r2 r3) fuel = Kk
          generalize ws.map encS = W at *
          generalize S (wA ws b) = U at *
          unfold l_and_at_1
          simp [w1, lit_and, hq, hx, show acc.length < 1000000 by omega]
        · rw [hs] at e'
          obtain ⟨⟨ds', z'⟩, h1, h2⟩ := Option.map_eq_some_iff.mp e'
          cases h2
          obtain ⟨d', j1, j2⟩ := i2 _ _ h1
          exact ⟨d', j1, by rw [j2]; simp⟩
    · rw [decide_eq_false c] at hq
      have hs : seqT ws rd AND (k + 1) b = some ([], b) := by unfold seqT; rw [if_neg c]
      rw [hs]
      refine ⟨.val (.tup [d, .int (b : Int)]), .own (.lst acc), ?_, fun ds z e => by cases e; exact ⟨d, rfl, by simp⟩⟩
      unfold whileM
      generalize ws.map encS = W at *
      generalize S (wA ws b) = U at *
      simp [w1, lit_and, hq]
theorem and_at_ok {ws : List (List Nat)} (hw : WsOk ws) (m : List Cell) (n : Nat) (opn : Int) (rd : Nat → Option (M.D × Nat)) (hr : Go ws rd) (h : ∀ b : Nat, f_part_at n [.lst (ws.map encS), .int (b : Int), .int opn] m = some (encT (rd b), m)) (a : Nat) : f_and_at (n + 1) [.lst (ws.map encS), .int (a : Int), .int opn] m = some (encT (joS ws rd AND a), m) := by
  have hx := h a
  rw [f_and_at_succ]
  generalize hr1 : f_part_at n = r1 at *
  generalize hr2 : f_and_at n = r2 at *
  generalize hr3 : f_or_at n = r3 at *
  unfold joS seqR
  cases hd : rd a with
  | none =>
    rw [hd] at hx
    unfold encT at hx ⊢
    dsimp only [Option.map] at hx ⊢
    generalize ws.map encS = W at *
    unfold b_and_at
    simp [fnM_ap, hx]
  | some db =>
    obtain ⟨d, b⟩ := db
    rw [hd] at hx
    have g := hr _ _ _ hd
    obtain ⟨y3, y4, i1, i2⟩ := and_at_while hw m (.int (a : Int)) (.int opn) r1 r2 r3 opn rfl rd hr h ws.length WMAX b d [d] g.2 (by omega) (by have := hw.1; unfold WMAX; omega) (by have := hw.1; simp; omega)
    dsimp only
    cases hs : seqT ws rd AND ws.length b with
    | none =>
      rw [hs] at i1
      unfold encT at hx ⊢
      dsimp only [Option.map] at hx ⊢
      generalize ws.map encS = W at *
      unfold b_and_at
      simp at i1
      simp [fnM_ap, hx, sWhile_ap, i1]
    | some dz =>
      obtain ⟨ds, z⟩ := dz
      rw [hs] at i1
      obtain ⟨d', j1, j2⟩ := i2 ds z hs
      subst j1 j2
      have gl := (seqT_go hr AND _ _ _ _ g.2 hs).2.2
      have hj := joined_ok AND (d :: ds) (by simp) (by have := hw.1; simp; omega) m
      unfold encT at hx ⊢
      dsimp only [Option.map] at hx ⊢
      generalize ws.map encS = W at *
      unfold b_and_at
      simp at i1
      rw [← lit_and] at hj
      simp [fnM_ap, hx, sWhile_ap, i1, hj]

theorem or_at_while {ws : List (List Nat)} (hw : WsOk ws) (m : List Cell) (a op : M.D) (r1 r2 r3 : FF) (opn : Int) (hop : op = .int opn) (rd : Nat → Option (M.D × Nat)) (hr : Go ws rd) (h : ∀ b : Nat, r2 [.lst (ws.map encS), .int (b : Int), op] m = some (encT (rd b), m)) :
    ∀ (k fuel b : Nat) (d : M.D) (acc : List M.D), b ≤ ws.length → ws.length - b ≤ k → k < fuel → acc.length + k ≤ 20000 → ∃ y3 y4, whileM (bOf (eOp gEq (eFn 2 f_word_at (aCons (eVar 0) (aCons (eOpL gIx 3 (eC (.int 1))) aNil))) (eC (.str "or")))) (l_or_at_1 r1 r2 r3) fuel ⟨[.val (.lst (ws.map encS)), .val a, .val op, .val (.tup [d, .int (b : Int)]), .own (.lst acc)], m⟩ = some (if (seqT ws rd ORR k b).isSome then .nx else .rt .non, ⟨[.val (.lst (ws.map encS)), .val a, .val op, y3, y4], m⟩) ∧
      ∀ ds z, seqT ws rd ORR k b = some (ds, z) → ∃ d', y3 = .val (.tup [d', .int (z : Int)]) ∧ y4 = .own (.lst (acc ++ ds)) := by
  subst hop
  intro k
  induction k with
  | zero =>
    intro fuel b d acc hb hk hf ha
    obtain ⟨fuel, rfl⟩ : ∃ f, fuel = f + 1 := ⟨fuel - 1, by omega⟩
    have w1 := word_at_ok hw m b
    have hq := eqS (wA_ok hw b).1 ok_ORR
    have hne : ¬ wA ws b = ORR := fun z => by rw [wA_out (by omega)] at z; cases z
    rw [decide_eq_false hne] at hq
    have hs : seqT ws rd ORR 0 b = some ([], b) := by unfold seqT; rw [if_neg hne]
    rw [hs]
    refine ⟨.val (.tup [d, .int (b : Int)]), .own (.lst acc), ?_, fun ds z e => by cases e; exact ⟨d, rfl, by simp⟩⟩
    unfold whileM
    generalize ws.map encS = W at *
    generalize S (wA ws b) = U at *
    simp [w1, lit_or, hq]
  | succ k ih =>
    intro fuel b d acc hb hk hf ha
    obtain ⟨fuel, rfl⟩ : ∃ f, fuel = f + 1 := ⟨fuel - 1, by omega⟩
    have w1 := word_at_ok hw m b
    have hq := eqS (wA_ok hw b).1 ok_ORR
    by_cases c : wA ws b = ORR
    · rw [decide_eq_true c] at hq
      have hx := h (b + 1)
      rw [show (((b + 1 : Nat)) : Int) = (b : Int) + 1 from rfl] at hx
      cases hd : rd (b + 1) with
      | none =>
        rw [hd] at hx
        have hs : seqT ws rd ORR (k + 1) b = none := by unfold seqT; rw [if_pos c, hd]
        rw [hs]
        unfold encT at hx
        dsimp only at hx
        refine ⟨.val .non, .own (.lst acc), ?_, fun ds z e => by cases e⟩
        unfold whileM
        generalize whileM (bOf (eOp gEq (eFn 2 f_word_at (aCons (eVar 0) (aCons (eOpL gIx 3 (eC (.int 1))) aNil))) (eC (.str "or")))) (l_or_at_1 r1 r2 r3) fuel = Kk
        generalize ws.map encS = W at *
        generalize S (wA ws b) = U at *
        unfold l_or_at_1
        simp [w1, lit_or, hq, hx]
      | some de =>
        obtain ⟨d2, e⟩ := de
        rw [hd] at hx
        have g := hr _ _ _ hd
        have hs : seqT ws rd ORR (k + 1) b = (seqT ws rd ORR k e).map fun p => (d2 :: p.1, p.2) := by
          conv => lhs; unfold seqT
          rw [if_pos c, hd]
        obtain ⟨y3, y4, i1, i2⟩ := ih fuel e d2 (acc ++ [d2]) g.2 (by omega) (by omega) (by simp; omega)
        unfold encT at hx
        dsimp only at hx
        refine ⟨y3, y4, ?_, fun ds z e' => ?_⟩
        · rw [hs, Option.isSome_map, ← i1]
          conv => lhs; unfold whileM
          generalize whileM (bOf (eOp gEq (eFn 2 f_word_at (aCons (eVar 0) (aCons (eOpL gIx 3 (eC (.int 1))) aNil))) (eC (.str "or")))) (l_or_at_1 r1 r2 r3) fuel = Kk
          generalize ws.map encS = W at *
          generalize S (wA ws b) = U at *
          unfold l_or_at_1
          simp [w1, lit_or, hq, hx, show acc.length < 1000000 by omega]
        · rw [hs] at e'
          obtain ⟨⟨ds', z'⟩, h1, h2⟩ := Option.map_eq_some_iff.mp e'
          cases h2
          obtain ⟨d', j1, j2⟩ := i2 _ _ h1
          exact ⟨d', j1, by rw [j2]; simp⟩
    · rw [decide_eq_false c] at hq
      have hs : seqT ws rd ORR (k + 1) b = some ([], b) := by unfold seqT; rw [if_neg c]
      rw [hs]
      refine ⟨.val (.tup [d, .int (b : Int)]), .own (.lst acc), ?_, fun ds z e => by cases e; exact ⟨d, rfl, by simp⟩⟩
      unfold whileM
      generalize ws.map encS = W at *
      generalize S (wA ws b) = U at *
      simp [w1, lit_or, hq]
theorem or_at_ok {ws : List (List Nat)} (hw : WsOk ws) (m : List Cell) (n : Nat) (opn : Int) (rd : Nat → Option (M.D × Nat)) (hr : Go ws rd) (h : ∀ b : Nat, f_and_at n [.lst (ws.map encS), .int (b : Int), .int opn] m = some (encT (rd b), m)) (a : Nat) : f_or_at (n + 1) [.lst (ws.map encS), .int (a : Int), .int opn] m = some (encT (joS ws rd ORR a), m) := by
  have hx := h a
  rw [f_or_at_succ]
  generalize hr1 : f_part_at n = r1 at *
  generalize hr2 : f_and_at n = r2 at *
  generalize hr3 : f_or_at n = r3 at *
  unfold joS seqR
  cases hd : rd a with
  | none =>
    rw [hd] at hx
    unfold encT at hx ⊢
    dsimp only [Option.map] at hx ⊢
    generalize ws.map encS = W at *
    unfold b_or_at
    simp [fnM_ap, hx]
  | some db =>
    obtain ⟨d, b⟩ := db
    rw [hd] at hx
    have g := hr _ _ _ hd
    obtain ⟨y3, y4, i1, i2⟩ := or_at_while hw m (.int (a : Int)) (.int opn) r1 r2 r3 opn rfl rd hr h ws.length WMAX b d [d] g.2 (by omega) (by have := hw.1; unfold WMAX; omega) (by have := hw.1; simp; omega)
    dsimp only
    cases hs : seqT ws rd ORR ws.length b with
    | none =>
      rw [hs] at i1
      unfold encT at hx ⊢
      dsimp only [Option.map] at hx ⊢
      generalize ws.map encS = W at *
      unfold b_or_at
      simp at i1
      simp [fnM_ap, hx, sWhile_ap, i1]
    | some dz =>
      obtain ⟨ds, z⟩ := dz
      rw [hs] at i1
      obtain ⟨d', j1, j2⟩ := i2 ds z hs
      subst j1 j2
      have gl := (seqT_go hr ORR _ _ _ _ g.2 hs).2.2
      have hj := joined_ok ORR (d :: ds) (by simp) (by have := hw.1; simp; omega) m
      unfold encT at hx ⊢
      dsimp only [Option.map] at hx ⊢
      generalize ws.map encS = W at *
      unfold b_or_at
      simp at i1
      rw [← lit_or] at hj
      simp [fnM_ap, hx, sWhile_ap, i1, hj]
end Lk03



namespace Lk03
open PySem L2 M

theorem law_read_and_for {ws : List (List Nat)} (hw : WsOk ws) (m : List Cell) (opn : Int) (r1 r2 r3 : FF) (rd : Nat → Option (M.D × Nat)) (hr : Go ws rd) (h : ∀ b : Nat, b ≤ ws.length + 1 → r1 [.lst (ws.map encS), .int (b : Int), .int opn] m = some (encL (rd b), m)) :
    ∀ (n j a k : Nat) (acc : List M.D) (x4 x5 : M.Slot), a ≤ ws.length + 1 → ws.length - a ≤ k → k < n → acc.length + k ≤ 20000 → ∃ y1 y3 y4 y5, M.forM (gNm 4) (l_law_read_and_1 r1 r2 r3) ((List.range' j n).map fun j : Nat => M.D.int (j : Int)) ⟨[.val (.lst (ws.map encS)), .val (.int (a : Int)), .val (.int opn), .own (.lst acc), x4, x5], m⟩ = some (if (seqR ws rd AND k a).isSome then .nx else .rt .non, ⟨[.val (.lst (ws.map encS)), y1, .val (.int opn), y3, y4, y5], m⟩) ∧
      ∀ ds z, seqR ws rd AND k a = some (ds, z) → y1 = .val (.int (z : Int)) ∧ y3 = .own (.lst (acc ++ ds)) := by
  intro n
  induction n with
  | zero => intro j a k acc x4 x5 _ _ hk; exact absurd hk (Nat.not_lt_zero _)
  | succ n ih =>
    intro j a k acc x4 x5 ha hk hn hl
    have hlen := len_W hw
    have hx := h a ha
    have e0 : ∀ S0 : Ms, S0 = ⟨[.val (.lst (ws.map encS)), .val (.int (a : Int)), .val (.int opn), .own (.lst acc), x4, x5], m⟩ → M.forM (gNm 4) (l_law_read_and_1 r1 r2 r3) ((List.range' j (n + 1)).map fun j : Nat => M.D.int (j : Int)) S0 = (l_law_read_and_1 r1 r2 r3 ⟨[.val (.lst (ws.map encS)), .val (.int (a : Int)), .val (.int opn), .own (.lst acc), .val (.int (j : Int)), x5], m⟩).bind fun x => match x.1 with
      | .nx => M.forM (gNm 4) (l_law_read_and_1 r1 r2 r3) ((List.range' (j + 1) n).map fun j : Nat => M.D.int (j : Int)) x.2
      | .ct => M.forM (gNm 4) (l_law_read_and_1 r1 r2 r3) ((List.range' (j + 1) n).map fun j : Nat => M.D.int (j : Int)) x.2
      | .bk => some (.nx, x.2)
      | .rt v => some (.rt v, x.2) := fun S0 e => by subst e; rfl
    rw [e0 _ rfl]
    clear e0
    cases hd : rd a with
    | none =>
      rw [hd] at hx
      have hs : seqR ws rd AND k a = none := by unfold seqR; rw [hd]
      rw [hs]
      unfold encL at hx
      dsimp only at hx
      refine ⟨.val (.int (a : Int)), .own (.lst acc), .val (.int (j : Int)), .val .non, ?_, fun ds z e => by cases e⟩
      generalize ws.map encS = W at *
      unfold l_law_read_and_1
      simp [hx]
    | some db =>
      obtain ⟨d, b⟩ := db
      rw [hd] at hx
      have g := hr _ _ _ hd
      have hs : seqR ws rd AND k a = (seqT ws rd AND k b).map fun p => (d :: p.1, p.2) := by unfold seqR; rw [hd]
      have hq := eqS (wA_ok hw b).1 ok_AND
      unfold encL at hx
      dsimp only at hx
      by_cases c : wA ws b = AND
      · rw [decide_eq_true c] at hq
        have hb : b < ws.length := by
          apply Decidable.byContradiction
          intro z
          rw [wA_out z] at c; cases c
        have e1 := wA_in hb
        obtain ⟨k, rfl⟩ : ∃ k', k = k' + 1 := ⟨k - 1, by omega⟩
        obtain ⟨y1, y3, y4, y5, i1, i2⟩ := ih (j + 1) (b + 1) k (acc ++ [d]) (.val (.int (j : Int))) (.val (.lst [d, .int (b : Int)])) (by omega) (by omega) (by omega) (by simp; omega)
        have hss : seqT ws rd AND (k + 1) b = seqR ws rd AND k (b + 1) := by
          conv => lhs; unfold seqT
          rw [if_pos c]; rfl
        refine ⟨y1, y3, y4, y5, ?_, fun ds z e => ?_⟩
        · rw [hs, hss, Option.isSome_map, ← i1]
          rw [show (((b + 1 : Nat)) : Int) = (b : Int) + 1 from rfl]
          generalize M.forM (gNm 4) (l_law_read_and_1 r1 r2 r3) ((List.range' (j + 1) n).map fun j : Nat => M.D.int (j : Int)) = Kk
          generalize ws.map encS = W at *
          generalize S (wA ws b) = U at *
          unfold l_law_read_and_1
          simp [hx, hlen, show ¬ ws.length ≤ b by omega, e1, lit_and, hq, show acc.length < 1000000 by omega]
        · rw [hs, hss] at e
          obtain ⟨⟨ds', z'⟩, h1, h2⟩ := Option.map_eq_some_iff.mp e
          cases h2
          obtain ⟨j1, j2⟩ := i2 _ _ h1
          exact ⟨j1, by rw [j2]; simp⟩
      · rw [decide_eq_false c] at hq
        have hss : seqT ws rd AND k b = some ([], b) := by
          cases k with
          | zero => unfold seqT; rw [if_neg c]
          | succ k => unfold seqT; rw [if_neg c]
        rw [hs, hss]
        refine ⟨.val (.int (b : Int)), .own (.lst (acc ++ [d])), .val (.int (j : Int)), .val (.lst [d, .int (b : Int)]), ?_, fun ds z e => by cases e; exact ⟨rfl, rfl⟩⟩
        generalize M.forM (gNm 4) (l_law_read_and_1 r1 r2 r3) ((List.range' (j + 1) n).map fun j : Nat => M.D.int (j : Int)) = Kk
        unfold l_law_read_and_1
        by_cases hb : b < ws.length
        · have e1 := wA_in hb
          generalize ws.map encS = W at *
          generalize S (wA ws b) = U at *
          simp [hx, hlen, show ¬ ws.length ≤ b by omega, e1, lit_and, hq, show acc.length < 1000000 by omega]
        · generalize ws.map encS = W at *
          simp [hx, hlen, show ws.length ≤ b by omega, show acc.length < 1000000 by omega]
theorem law_read_and_ok {ws : List (List Nat)} (hw : WsOk ws) (m : List Cell) (n : Nat) (opn : Int) (rd : Nat → Option (M.D × Nat)) (hr : Go ws rd) (h : ∀ b : Nat, b ≤ ws.length + 1 → f_law_read_not n [.lst (ws.map encS), .int (b : Int), .int opn] m = some (encL (rd b), m)) (a : Nat) (ha : a ≤ ws.length + 1) : f_law_read_and (n + 1) [.lst (ws.map encS), .int (a : Int), .int opn] m = some (encL (joS ws rd AND a), m) := by
  rw [f_law_read_and_succ]
  generalize hr1 : f_law_read_not n = r1 at *
  generalize hr2 : f_law_read_and n = r2 at *
  generalize hr3 : f_law_read_or n = r3 at *
  obtain ⟨y1, y3, y4, y5, i1, i2⟩ := law_read_and_for hw m opn r1 r2 r3 rd hr h (ws.length + 1) 0 a ws.length [] .emp .emp ha (by omega) (by omega) (by have := hw.1; simp; omega)
  have hlen := len_W hw
  have q1 : ∀ s1 s2 s3 s4 s5 : M.Slot, iRg1 (eOp gAdd (eCallV gLen 0) (eC (.int 1))) ⟨[.val (.lst (ws.map encS)), s1, s2, s3, s4, s5], m⟩ = some ((List.range' 0 (ws.length + 1)).map (fun j : Nat => M.D.int (j : Int)), ⟨[.val (.lst (ws.map encS)), s1, s2, s3, s4, s5], m⟩) := fun s1 s2 s3 s4 s5 => by
    have := iRg1_step (f := eOp gAdd (eCallV gLen 0) (eC (.int 1))) (S := ⟨[.val (.lst (ws.map encS)), s1, s2, s3, s4, s5], m⟩) (S' := ⟨[.val (.lst (ws.map encS)), s1, s2, s3, s4, s5], m⟩) (n := ws.length + 1) (by simp) (by have := hw.1; omega)
    rw [this, List.range_eq_range']
  generalize (List.range' 0 (ws.length + 1)).map (fun j : Nat => M.D.int (j : Int)) = L at i1 q1
  have hb : ∀ W : List M.D, b_law_read_and r1 r2 r3 ⟨[.val (.lst W), .val (.int (a : Int)), .val (.int opn), .emp, .emp, .emp], m⟩ = t_law_read_and_6 r1 r2 r3 ⟨[.val (.lst W), .val (.int (a : Int)), .val (.int opn), .own (.lst []), .emp, .emp], m⟩ := fun W => by
    unfold b_law_read_and
    generalize t_law_read_and_6 r1 r2 r3 = tl
    revert tl
    refine opq ?_
    intro tl
    simp
  unfold joS
  cases hs : seqR ws rd AND ws.length a with
  | none =>
    rw [hs] at i1
    unfold encL
    dsimp only [Option.map]
    generalize ws.map encS = W at *
    have h6 : t_law_read_and_6 r1 r2 r3 ⟨[.val (.lst W), .val (.int (a : Int)), .val (.int opn), .own (.lst []), .emp, .emp], m⟩ = some (.rt .non, ⟨[.val (.lst W), y1, .val (.int opn), y3, y4, y5], m⟩) := by
      rw [t_law_read_and_6_ap]
      generalize t_law_read_and_5 r1 r2 r3 = tl
      generalize l_law_read_and_1 r1 r2 r3 = lp at i1 ⊢
      revert tl
      refine opq ?_
      intro tl
      simp at i1
      simp [-iRg1_ap, q1, i1]
    rw [fnM_ap]
    show (b_law_read_and r1 r2 r3 ⟨[.val (.lst W), .val (.int (a : Int)), .val (.int opn), .emp, .emp, .emp], m⟩).bind _ = _
    rw [hb W, h6]
    rfl
  | some dz =>
    obtain ⟨ds, z⟩ := dz
    rw [hs] at i1
    obtain ⟨j1, j2⟩ := i2 ds z hs
    subst j1 j2
    have gl : 0 < ds.length ∧ ds.length ≤ ws.length + 1 := by
      unfold seqR at hs
      split at hs
      · cases hs
      · rename_i d b he
        obtain ⟨⟨ds', z'⟩, h1, h2⟩ := Option.map_eq_some_iff.mp hs
        cases h2
        have g := hr _ _ _ he
        have := (seqT_go hr AND _ _ _ _ g.2 h1).2.2
        simp; omega
    have hwl := hw.1
    unfold encL joinD
    dsimp only [Option.map]
    rw [List.nil_append] at i1
    generalize ws.map encS = W at *
    have h6 : t_law_read_and_6 r1 r2 r3 ⟨[.val (.lst W), .val (.int (a : Int)), .val (.int opn), .own (.lst []), .emp, .emp], m⟩ = t_law_read_and_5 r1 r2 r3 ⟨[.val (.lst W), .val (.int (z : Int)), .val (.int opn), .own (.lst ds), y4, y5], m⟩ := by
      rw [t_law_read_and_6_ap]
      generalize t_law_read_and_5 r1 r2 r3 = tl
      generalize l_law_read_and_1 r1 r2 r3 = lp at i1 ⊢
      revert tl
      refine opq ?_
      intro tl
      simp at i1
      simp [-iRg1_ap, q1, i1]
    rw [fnM_ap]
    show (b_law_read_and r1 r2 r3 ⟨[.val (.lst W), .val (.int (a : Int)), .val (.int opn), .emp, .emp, .emp], m⟩).bind _ = _
    rw [hb W, h6]
    by_cases c : ds.length = 1
    · obtain ⟨d, rfl⟩ : ∃ d, ds = [d] := by
        match ds, c with
        | [d], _ => exact ⟨d, rfl⟩
      rw [t_law_read_and_5_ap]
      simp
    · rw [if_neg c, t_law_read_and_5_ap]
      simp [show ¬ (ds.length : Int) = 1 by omega, lit_and]

theorem law_read_or_for {ws : List (List Nat)} (hw : WsOk ws) (m : List Cell) (opn : Int) (r1 r2 r3 : FF) (rd : Nat → Option (M.D × Nat)) (hr : Go ws rd) (h : ∀ b : Nat, b ≤ ws.length + 1 → r2 [.lst (ws.map encS), .int (b : Int), .int opn] m = some (encL (rd b), m)) :
    ∀ (n j a k : Nat) (acc : List M.D) (x4 x5 : M.Slot), a ≤ ws.length + 1 → ws.length - a ≤ k → k < n → acc.length + k ≤ 20000 → ∃ y1 y3 y4 y5, M.forM (gNm 4) (l_law_read_or_1 r1 r2 r3) ((List.range' j n).map fun j : Nat => M.D.int (j : Int)) ⟨[.val (.lst (ws.map encS)), .val (.int (a : Int)), .val (.int opn), .own (.lst acc), x4, x5], m⟩ = some (if (seqR ws rd ORR k a).isSome then .nx else .rt .non, ⟨[.val (.lst (ws.map encS)), y1, .val (.int opn), y3, y4, y5], m⟩) ∧
      ∀ ds z, seqR ws rd ORR k a = some (ds, z) → y1 = .val (.int (z : Int)) ∧ y3 = .own (.lst (acc ++ ds)) := by
  intro n
  induction n with
  | zero => intro j a k acc x4 x5 _ _ hk; exact absurd hk (Nat.not_lt_zero _)
  | succ n ih =>
    intro j a k acc x4 x5 ha hk hn hl
    have hlen := len_W hw
    have hx := h a ha
    have e0 : ∀ S0 : Ms, S0 = ⟨[.val (.lst (ws.map encS)), .val (.int (a : Int)), .val (.int opn), .own (.lst acc), x4, x5], m⟩ → M.forM (gNm 4) (l_law_read_or_1 r1 r2 r3) ((List.range' j (n + 1)).map fun j : Nat => M.D.int (j : Int)) S0 = (l_law_read_or_1 r1 r2 r3 ⟨[.val (.lst (ws.map encS)), .val (.int (a : Int)), .val (.int opn), .own (.lst acc), .val (.int (j : Int)), x5], m⟩).bind fun x => match x.1 with
      | .nx => M.forM (gNm 4) (l_law_read_or_1 r1 r2 r3) ((List.range' (j + 1) n).map fun j : Nat => M.D.int (j : Int)) x.2
      | .ct => M.forM (gNm 4) (l_law_read_or_1 r1 r2 r3) ((List.range' (j + 1) n).map fun j : Nat => M.D.int (j : Int)) x.2
      | .bk => some (.nx, x.2)
      | .rt v => some (.rt v, x.2) := fun S0 e => by subst e; rfl
    rw [e0 _ rfl]
    clear e0
    cases hd : rd a with
    | none =>
      rw [hd] at hx
      have hs : seqR ws rd ORR k a = none := by unfold seqR; rw [hd]
      rw [hs]
      unfold encL at hx
      dsimp only at hx
      refine ⟨.val (.int (a : Int)), .own (.lst acc), .val (.int (j : Int)), .val .non, ?_, fun ds z e => by cases e⟩
      generalize ws.map encS = W at *
      unfold l_law_read_or_1
      simp [hx]
    | some db =>
      obtain ⟨d, b⟩ := db
      rw [hd] at hx
      have g := hr _ _ _ hd
      have hs : seqR ws rd ORR k a = (seqT ws rd ORR k b).map fun p => (d :: p.1, p.2) := by unfold seqR; rw [hd]
      have hq := eqS (wA_ok hw b).1 ok_ORR
      unfold encL at hx
      dsimp only at hx
      by_cases c : wA ws b = ORR
      · rw [decide_eq_true c] at hq
        have hb : b < ws.length := by
          apply Decidable.byContradiction
          intro z
          rw [wA_out z] at c; cases c
        have e1 := wA_in hb
        obtain ⟨k, rfl⟩ : ∃ k', k = k' + 1 := ⟨k - 1, by omega⟩
        obtain ⟨y1, y3, y4, y5, i1, i2⟩ := ih (j + 1) (b + 1) k (acc ++ [d]) (.val (.int (j : Int))) (.val (.lst [d, .int (b : Int)])) (by omega) (by omega) (by omega) (by simp; omega)
        have hss : seqT ws rd ORR (k + 1) b = seqR ws rd ORR k (b + 1) := by
          conv => lhs; unfold seqT
          rw [if_pos c]; rfl
        refine ⟨y1, y3, y4, y5, ?_, fun ds z e => ?_⟩
        · rw [hs, hss, Option.isSome_map, ← i1]
          rw [show (((b + 1 : Nat)) : Int) = (b : Int) + 1 from rfl]
          generalize M.forM (gNm 4) (l_law_read_or_1 r1 r2 r3) ((List.range' (j + 1) n).map fun j : Nat => M.D.int (j : Int)) = Kk
          generalize ws.map encS = W at *
          generalize S (wA ws b) = U at *
          unfold l_law_read_or_1
          simp [hx, hlen, show ¬ ws.length ≤ b by omega, e1, lit_or, hq, show acc.length < 1000000 by omega]
        · rw [hs, hss] at e
          obtain ⟨⟨ds', z'⟩, h1, h2⟩ := Option.map_eq_some_iff.mp e
          cases h2
          obtain ⟨j1, j2⟩ := i2 _ _ h1
          exact ⟨j1, by rw [j2]; simp⟩
      · rw [decide_eq_false c] at hq
        have hss : seqT ws rd ORR k b = some ([], b) := by
          cases k with
          | zero => unfold seqT; rw [if_neg c]
          | succ k => unfold seqT; rw [if_neg c]
        rw [hs, hss]
        refine ⟨.val (.int (b : Int)), .own (.lst (acc ++ [d])), .val (.int (j : Int)), .val (.lst [d, .int (b : Int)]), ?_, fun ds z e => by cases e; exact ⟨rfl, rfl⟩⟩
        generalize M.forM (gNm 4) (l_law_read_or_1 r1 r2 r3) ((List.range' (j + 1) n).map fun j : Nat => M.D.int (j : Int)) = Kk
        unfold l_law_read_or_1
        by_cases hb : b < ws.length
        · have e1 := wA_in hb
          generalize ws.map encS = W at *
          generalize S (wA ws b) = U at *
          simp [hx, hlen, show ¬ ws.length ≤ b by omega, e1, lit_or, hq, show acc.length < 1000000 by omega]
        · generalize ws.map encS = W at *
          simp [hx, hlen, show ws.length ≤ b by omega, show acc.length < 1000000 by omega]
theorem law_read_or_ok {ws : List (List Nat)} (hw : WsOk ws) (m : List Cell) (n : Nat) (opn : Int) (rd : Nat → Option (M.D × Nat)) (hr : Go ws rd) (h : ∀ b : Nat, b ≤ ws.length + 1 → f_law_read_and n [.lst (ws.map encS), .int (b : Int), .int opn] m = some (encL (rd b), m)) (a : Nat) (ha : a ≤ ws.length + 1) : f_law_read_or (n + 1) [.lst (ws.map encS), .int (a : Int), .int opn] m = some (encL (joS ws rd ORR a), m) := by
  rw [f_law_read_or_succ]
  generalize hr1 : f_law_read_not n = r1 at *
  generalize hr2 : f_law_read_and n = r2 at *
  generalize hr3 : f_law_read_or n = r3 at *
  obtain ⟨y1, y3, y4, y5, i1, i2⟩ := law_read_or_for hw m opn r1 r2 r3 rd hr h (ws.length + 1) 0 a ws.length [] .emp .emp ha (by omega) (by omega) (by have := hw.1; simp; omega)
  have hlen := len_W hw
  have q1 : ∀ s1 s2 s3 s4 s5 : M.Slot, iRg1 (eOp gAdd (eCallV gLen 0) (eC (.int 1))) ⟨[.val (.lst (ws.map encS)), s1, s2, s3, s4, s5], m⟩ = some ((List.range' 0 (ws.length + 1)).map (fun j : Nat => M.D.int (j : Int)), ⟨[.val (.lst (ws.map encS)), s1, s2, s3, s4, s5], m⟩) := fun s1 s2 s3 s4 s5 => by
    have := iRg1_step (f := eOp gAdd (eCallV gLen 0) (eC (.int 1))) (S := ⟨[.val (.lst (ws.map encS)), s1, s2, s3, s4, s5], m⟩) (S' := ⟨[.val (.lst (ws.map encS)), s1, s2, s3, s4, s5], m⟩) (n := ws.length + 1) (by simp) (by have := hw.1; omega)
    rw [this, List.range_eq_range']
  generalize (List.range' 0 (ws.length + 1)).map (fun j : Nat => M.D.int (j : Int)) = L at i1 q1
  have hb : ∀ W : List M.D, b_law_read_or r1 r2 r3 ⟨[.val (.lst W), .val (.int (a : Int)), .val (.int opn), .emp, .emp, .emp], m⟩ = t_law_read_or_6 r1 r2 r3 ⟨[.val (.lst W), .val (.int (a : Int)), .val (.int opn), .own (.lst []), .emp, .emp], m⟩ := fun W => by
    unfold b_law_read_or
    generalize t_law_read_or_6 r1 r2 r3 = tl
    revert tl
    refine opq ?_
    intro tl
    simp
  unfold joS
  cases hs : seqR ws rd ORR ws.length a with
  | none =>
    rw [hs] at i1
    unfold encL
    dsimp only [Option.map]
    generalize ws.map encS = W at *
    have h6 : t_law_read_or_6 r1 r2 r3 ⟨[.val (.lst W), .val (.int (a : Int)), .val (.int opn), .own (.lst []), .emp, .emp], m⟩ = some (.rt .non, ⟨[.val (.lst W), y1, .val (.int opn), y3, y4, y5], m⟩) := by
      rw [t_law_read_or_6_ap]
      generalize t_law_read_or_5 r1 r2 r3 = tl
      generalize l_law_read_or_1 r1 r2 r3 = lp at i1 ⊢
      revert tl
      refine opq ?_
      intro tl
      simp at i1
      simp [-iRg1_ap, q1, i1]
    rw [fnM_ap]
    show (b_law_read_or r1 r2 r3 ⟨[.val (.lst W), .val (.int (a : Int)), .val (.int opn), .emp, .emp, .emp], m⟩).bind _ = _
    rw [hb W, h6]
    rfl
  | some dz =>
    obtain ⟨ds, z⟩ := dz
    rw [hs] at i1
    obtain ⟨j1, j2⟩ := i2 ds z hs
    subst j1 j2
    have gl : 0 < ds.length ∧ ds.length ≤ ws.length + 1 := by
      unfold seqR at hs
      split at hs
      · cases hs
      · rename_i d b he
        obtain ⟨⟨ds', z'⟩, h1, h2⟩ := Option.map_eq_some_iff.mp hs
        cases h2
        have g := hr _ _ _ he
        have := (seqT_go hr ORR _ _ _ _ g.2 h1).2.2
        simp; omega
    have hwl := hw.1
    unfold encL joinD
    dsimp only [Option.map]
    rw [List.nil_append] at i1
    generalize ws.map encS = W at *
    have h6 : t_law_read_or_6 r1 r2 r3 ⟨[.val (.lst W), .val (.int (a : Int)), .val (.int opn), .own (.lst []), .emp, .emp], m⟩ = t_law_read_or_5 r1 r2 r3 ⟨[.val (.lst W), .val (.int (z : Int)), .val (.int opn), .own (.lst ds), y4, y5], m⟩ := by
      rw [t_law_read_or_6_ap]
      generalize t_law_read_or_5 r1 r2 r3 = tl
      generalize l_law_read_or_1 r1 r2 r3 = lp at i1 ⊢
      revert tl
      refine opq ?_
      intro tl
      simp at i1
      simp [-iRg1_ap, q1, i1]
    rw [fnM_ap]
    show (b_law_read_or r1 r2 r3 ⟨[.val (.lst W), .val (.int (a : Int)), .val (.int opn), .emp, .emp, .emp], m⟩).bind _ = _
    rw [hb W, h6]
    by_cases c : ds.length = 1
    · obtain ⟨d, rfl⟩ : ∃ d, ds = [d] := by
        match ds, c with
        | [d], _ => exact ⟨d, rfl⟩
      rw [t_law_read_or_5_ap]
      simp
    · rw [if_neg c, t_law_read_or_5_ap]
      simp [show ¬ (ds.length : Int) = 1 by omega, lit_or]
end Lk03



namespace Lk03
open PySem L2 M
theorem b_part_at_x {rec_part_at rec_and_at rec_or_at : FF} : b_part_at rec_part_at rec_and_at rec_or_at = (sSeq (sAsg (eFn 2 f_word_at (aCons (eVar 0) (aCons (eVar 1) aNil))) (gNm 3)) (sSeq (sIf (bOf (eOp (gIn3 true) (eVar 3) (eTup (aCons (eC (.str "not")) (aCons (eC (.str "(")) aNil))))) (sRet (eFn 2 f_comparison_at (aCons (eVar 0) (aCons (eVar 1) aNil)))) sNil) (sSeq (sIf (bOf (eOp gEq (eVar 2) (eC (.int 8)))) (sRet (eC .non)) sNil) (sSeq (sIf (bOf (eOp gEq (eVar 3) (eC (.str "not")))) (sSeq (sAsg (eFn 3 rec_part_at (aCons (eVar 0) (aCons (eOp gAdd (eVar 1) (eC (.int 1))) (aCons (eOp gAdd (eVar 2) (eC (.int 1))) aNil)))) (gNm 4)) (sSeq (sIf (bOf (eOp gIsN (eVar 4) (eC .non))) (sRet (eC .non)) sNil) (sRet (eTup (aCons (eTup (aCons (eC (.str "not")) (aCons (eOpL gIx 4 (eC (.int 0))) aNil))) (aCons (eOpL gIx 4 (eC (.int 1))) aNil)))))) sNil) (sSeq (sAsg (eFn 3 rec_or_at (aCons (eVar 0) (aCons (eOp gAdd (eVar 1) (eC (.int 1))) (aCons (eOp gAdd (eVar 2) (eC (.int 1))) aNil)))) (gNm 4)) (sSeq (sIf (bOr (bOf (eOp gIsN (eVar 4) (eC .non))) (bOf (eOp gNe (eFn 2 f_word_at (aCons (eVar 0) (aCons (eOpL gIx 4 (eC (.int 1))) aNil))) (eC (.str ")"))))) (sRet (eC .non)) sNil) (sRet (eTup (aCons (eOpL gIx 4 (eC (.int 0))) (aCons (eOp gAdd (eOpL gIx 4 (eC (.int 1))) (eC (.int 1))) aNil)))))))))) := rfl
theorem b_law_read_not_x {rec_law_read_not rec_law_read_and rec_law_read_or : FF} : b_law_read_not rec_law_read_not rec_law_read_and rec_law_read_or = (sSeq (sIf (bOr (bOf (eOp gGe (eVar 1) (eCallV gLen 0))) (bOf (eOp (gIn3 true) (eOpL gIx 0 (eVar 1)) (eNew (cLst (aCons (eC (.str "not")) (aCons (eC (.str "(")) aNil))))))) (sRet (eFn 2 f_law_read_cmp (aCons (eVar 0) (aCons (eVar 1) aNil)))) sNil) (sSeq (sIf (bOf (eOp gEq (eVar 2) (eC (.int 8)))) (sRet (eC .non)) sNil) (sSeq (sIf (bOf (eOp gEq (eOpL gIx 0 (eVar 1)) (eC (.str "not")))) (sSeq (sAsg (eFn 3 rec_law_read_not (aCons (eVar 0) (aCons (eOp gAdd (eVar 1) (eC (.int 1))) (aCons (eOp gAdd (eVar 2) (eC (.int 1))) aNil)))) (gNm 3)) (sSeq (sIf (bOf (eOp gIsN (eVar 3) (eC .non))) (sRet (eC .non)) sNil) (sRet (eNew (cLst (aCons (eTup (aCons (eC (.str "not")) (aCons (eOpL gIx 3 (eC (.int 0))) aNil))) (aCons (eOpL gIx 3 (eC (.int 1))) aNil))))))) sNil) (sSeq (sAsg (eFn 3 rec_law_read_or (aCons (eVar 0) (aCons (eOp gAdd (eVar 1) (eC (.int 1))) (aCons (eOp gAdd (eVar 2) (eC (.int 1))) aNil)))) (gNm 3)) (sSeq (sIf (bOr (bOf (eOp gIsN (eVar 3) (eC .non))) (bOr (bOf (eOp gGe (eOpL gIx 3 (eC (.int 1))) (eCallV gLen 0))) (bOf (eOp gNe (eOpL gIx 0 (eOpL gIx 3 (eC (.int 1)))) (eC (.str ")")))))) (sRet (eC .non)) sNil) (sRet (eNew (cLst (aCons (eOpL gIx 3 (eC (.int 0))) (aCons (eOp gAdd (eOpL gIx 3 (eC (.int 1))) (eC (.int 1))) aNil)))))))))) := rfl
section
variable {ws : List (List Nat)} (hw : WsOk ws) (m : List Cell) (a : Nat) (r1 r2 r3 : FF) (op : Int)
def notO : Option (M.D × Nat) → Option (M.D × Nat)
  | none => none
  | some (d, b) => some (.tup [.str (S NOT), d], b)
def parO (ws : List (List Nat)) : Option (M.D × Nat) → Option (M.D × Nat)
  | none => none
  | some (d, b) => if wA ws b = [41] then some (d, b + 1) else none
include hw
theorem pa_cmp (c : ¬ (wA ws a = NOT ∨ wA ws a = [40])) : fnM 5 (b_part_at r1 r2 r3) [.lst (ws.map encS), .int (a : Int), .int op] m = some (encT (cmpR ws a), m) := by
  have w1 := word_at_ok hw m a
  have g1 := no_t (wA ws a)
  have c1 := (cmp_ok hw m a).1
  rw [decide_eq_false c] at g1
  generalize ws.map encS = W at *
  generalize S (wA ws a) = U at *
  rw [b_part_at_x]
  generalize f_word_at = wf at *
  generalize f_comparison_at = cf at *
  simp [fnM_ap, w1, lit_not, lit_o, g1, c1]
theorem pa_eight (c : wA ws a = NOT ∨ wA ws a = [40]) (h : op = 8) : fnM 5 (b_part_at r1 r2 r3) [.lst (ws.map encS), .int (a : Int), .int op] m = some (.non, m) := by
  have w1 := word_at_ok hw m a
  have g1 := no_t (wA ws a)
  rw [decide_eq_true c] at g1
  generalize ws.map encS = W at *
  generalize S (wA ws a) = U at *
  rw [b_part_at_x]
  generalize f_word_at = wf at *
  generalize f_comparison_at = cf at *
  simp [fnM_ap, w1, lit_not, lit_o, g1, h]
theorem pa_not (c0 : wA ws a = NOT) (h8 : ¬ op = 8) (o : Option (M.D × Nat)) (h : r1 [.lst (ws.map encS), .int ((a : Int) + 1), .int (op + 1)] m = some (encT o, m)) : fnM 5 (b_part_at r1 r2 r3) [.lst (ws.map encS), .int (a : Int), .int op] m = some (encT (notO o), m) := by
  have w1 := word_at_ok hw m a
  have g1 := no_t (wA ws a)
  have hqn := eqS (wA_ok hw a).1 ok_NOT
  rw [decide_eq_true (.inl c0)] at g1
  rw [decide_eq_true c0] at hqn
  generalize ws.map encS = W at *
  generalize S (wA ws a) = U at *
  rw [b_part_at_x]
  generalize f_word_at = wf at *
  generalize f_comparison_at = cf at *
  cases o with
  | none =>
    unfold encT at h
    dsimp only at h
    simp [fnM_ap, w1, lit_not, lit_o, g1, h8, hqn, h, encT, notO]
  | some db =>
    obtain ⟨d, b⟩ := db
    unfold encT at h
    dsimp only at h
    simp [fnM_ap, w1, lit_not, lit_o, g1, h8, hqn, h, encT, notO]
theorem pa_par (c3 : wA ws a = [40]) (h8 : ¬ op = 8) (o : Option (M.D × Nat)) (h : r3 [.lst (ws.map encS), .int ((a : Int) + 1), .int (op + 1)] m = some (encT o, m)) : fnM 5 (b_part_at r1 r2 r3) [.lst (ws.map encS), .int (a : Int), .int op] m = some (encT (parO ws o), m) := by
  have w1 := word_at_ok hw m a
  have g1 := no_t (wA ws a)
  have hqn := eqS (wA_ok hw a).1 ok_NOT
  rw [decide_eq_true (.inr c3)] at g1
  rw [decide_eq_false (show ¬ wA ws a = NOT by rw [c3]; decide)] at hqn
  cases o with
  | none =>
    unfold encT at h
    dsimp only at h
    generalize ws.map encS = W at *
    generalize S (wA ws a) = U at *
    rw [b_part_at_x]
    generalize f_word_at = wf at *
    generalize f_comparison_at = cf at *
    simp [fnM_ap, w1, lit_not, lit_o, g1, h8, hqn, h, encT, parO]
  | some db =>
    obtain ⟨d, b⟩ := db
    unfold encT at h
    dsimp only at h
    have w3 := word_at_ok hw m b
    have hq2 := eqS (wA_ok hw b).1 (ok1 (c := 41) (by omega))
    unfold encT parO
    dsimp only
    by_cases c4 : wA ws b = [41]
    · rw [if_pos c4]
      rw [decide_eq_true c4] at hq2
      dsimp only
      generalize ws.map encS = W at *
      generalize S (wA ws a) = U at *
      generalize S (wA ws b) = V at *
      rw [b_part_at_x]
      generalize f_word_at = wf at *
      generalize f_comparison_at = cf at *
      simp [fnM_ap, w1, lit_not, lit_o, lit_c, g1, h8, hqn, h, w3, hq2]
    · rw [if_neg c4]
      rw [decide_eq_false c4] at hq2
      dsimp only
      generalize ws.map encS = W at *
      generalize S (wA ws a) = U at *
      generalize S (wA ws b) = V at *
      rw [b_part_at_x]
      generalize f_word_at = wf at *
      generalize f_comparison_at = cf at *
      simp [fnM_ap, w1, lit_not, lit_o, lit_c, g1, h8, hqn, h, w3, hq2]
theorem la_cmp (c : ¬ (wA ws a = NOT ∨ wA ws a = [40])) : fnM 4 (b_law_read_not r1 r2 r3) [.lst (ws.map encS), .int (a : Int), .int op] m = some (encL (cmpR ws a), m) := by
  have hl := len_W hw
  have g2 := no_l (wA_ok hw a).1
  have c2 := (cmp_ok hw m a).2
  rw [decide_eq_false c] at g2
  by_cases ha : a < ws.length
  · have e1 := wA_in ha
    generalize ws.map encS = W at *
    generalize S (wA ws a) = U at *
    rw [b_law_read_not_x]
    generalize f_law_read_cmp = cf at *
    simp [fnM_ap, hl, show ¬ ws.length ≤ a by omega, e1, lit_not, lit_o, g2, c2]
  · generalize ws.map encS = W at *
    rw [b_law_read_not_x]
    generalize f_law_read_cmp = cf at *
    simp [fnM_ap, hl, show ws.length ≤ a by omega, c2]
theorem la_eight (c : wA ws a = NOT ∨ wA ws a = [40]) (h : op = 8) : fnM 4 (b_law_read_not r1 r2 r3) [.lst (ws.map encS), .int (a : Int), .int op] m = some (.non, m) := by
  have hl := len_W hw
  have g2 := no_l (wA_ok hw a).1
  have ha : a < ws.length := by
    apply Decidable.byContradiction
    intro z
    rw [wA_out z] at c
    exact absurd c (by decide)
  have e1 := wA_in ha
  rw [decide_eq_true c] at g2
  generalize ws.map encS = W at *
  generalize S (wA ws a) = U at *
  rw [b_law_read_not_x]
  generalize f_law_read_cmp = cf at *
  simp [fnM_ap, hl, show ¬ ws.length ≤ a by omega, e1, lit_not, lit_o, g2, h]
theorem la_not (c0 : wA ws a = NOT) (h8 : ¬ op = 8) (o : Option (M.D × Nat)) (h : r1 [.lst (ws.map encS), .int ((a : Int) + 1), .int (op + 1)] m = some (encL o, m)) : fnM 4 (b_law_read_not r1 r2 r3) [.lst (ws.map encS), .int (a : Int), .int op] m = some (encL (notO o), m) := by
  have hl := len_W hw
  have g2 := no_l (wA_ok hw a).1
  have ha : a < ws.length := by
    apply Decidable.byContradiction
    intro z
    rw [wA_out z] at c0
    cases c0
  have e1 := wA_in ha
  have hqn := eqS (wA_ok hw a).1 ok_NOT
  rw [decide_eq_true (.inl c0)] at g2
  rw [decide_eq_true c0] at hqn
  generalize ws.map encS = W at *
  generalize S (wA ws a) = U at *
  rw [b_law_read_not_x]
  generalize f_law_read_cmp = cf at *
  cases o with
  | none =>
    unfold encL at h
    dsimp only at h
    simp [fnM_ap, hl, show ¬ ws.length ≤ a by omega, e1, lit_not, lit_o, g2, h8, hqn, h, encL, notO]
  | some db =>
    obtain ⟨d, b⟩ := db
    unfold encL at h
    dsimp only at h
    simp [fnM_ap, hl, show ¬ ws.length ≤ a by omega, e1, lit_not, lit_o, g2, h8, hqn, h, encL, notO]
theorem la_par (c3 : wA ws a = [40]) (h8 : ¬ op = 8) (o : Option (M.D × Nat)) (h : r3 [.lst (ws.map encS), .int ((a : Int) + 1), .int (op + 1)] m = some (encL o, m)) : fnM 4 (b_law_read_not r1 r2 r3) [.lst (ws.map encS), .int (a : Int), .int op] m = some (encL (parO ws o), m) := by
  have hl := len_W hw
  have g2 := no_l (wA_ok hw a).1
  have ha := one_in hw c3
  have e1 := wA_in ha
  have hqn := eqS (wA_ok hw a).1 ok_NOT
  rw [decide_eq_true (.inr c3)] at g2
  rw [decide_eq_false (show ¬ wA ws a = NOT by rw [c3]; decide)] at hqn
  cases o with
  | none =>
    unfold encL at h
    dsimp only at h
    generalize ws.map encS = W at *
    generalize S (wA ws a) = U at *
    rw [b_law_read_not_x]
    generalize f_law_read_cmp = cf at *
    simp [fnM_ap, hl, show ¬ ws.length ≤ a by omega, e1, lit_not, lit_o, g2, h8, hqn, h, encL, parO]
  | some db =>
    obtain ⟨d, b⟩ := db
    unfold encL at h
    dsimp only at h
    have hq2 := eqS (wA_ok hw b).1 (ok1 (c := 41) (by omega))
    unfold encL parO
    dsimp only
    by_cases c4 : wA ws b = [41]
    · have hb := one_in hw c4
      have e3 := wA_in hb
      rw [if_pos c4]
      rw [decide_eq_true c4] at hq2
      dsimp only
      generalize ws.map encS = W at *
      generalize S (wA ws a) = U at *
      generalize S (wA ws b) = V at *
      rw [b_law_read_not_x]
      generalize f_law_read_cmp = cf at *
      simp [fnM_ap, hl, show ¬ ws.length ≤ a by omega, e1, lit_not, lit_o, lit_c, g2, h8, hqn, h, show ¬ ws.length ≤ b by omega, e3, hq2]
    · rw [if_neg c4]
      rw [decide_eq_false c4] at hq2
      dsimp only
      by_cases hb : b < ws.length
      · have e3 := wA_in hb
        generalize ws.map encS = W at *
        generalize S (wA ws a) = U at *
        generalize S (wA ws b) = V at *
        rw [b_law_read_not_x]
        generalize f_law_read_cmp = cf at *
        simp [fnM_ap, hl, show ¬ ws.length ≤ a by omega, e1, lit_not, lit_o, lit_c, g2, h8, hqn, h, show ¬ ws.length ≤ b by omega, e3, hq2]
      · generalize ws.map encS = W at *
        generalize S (wA ws a) = U at *
        rw [b_law_read_not_x]
        generalize f_law_read_cmp = cf at *
        simp [fnM_ap, hl, show ¬ ws.length ≤ a by omega, e1, lit_not, lit_o, lit_c, g2, h8, hqn, h, show ws.length ≤ b by omega]
end
theorem partR_not {ws : List (List Nat)} {q a : Nat} (h : wA ws a = NOT) : partR ws (q + 1) a = notO (partR ws q (a + 1)) := by
  conv => lhs; unfold partR
  rw [if_pos h]
  cases partR ws q (a + 1) <;> rfl
theorem partR_par {ws : List (List Nat)} {q a : Nat} (h : wA ws a = [40]) : partR ws (q + 1) a = parO ws (joS ws (joS ws (partR ws q) AND) ORR (a + 1)) := by
  conv => lhs; unfold partR
  rw [if_neg (by rw [h]; decide), if_pos h]
  cases joS ws (joS ws (partR ws q) AND) ORR (a + 1) <;> rfl
theorem partR_cmp {ws : List (List Nat)} {q a : Nat} (h : ¬ (wA ws a = NOT ∨ wA ws a = [40])) : partR ws q a = cmpR ws a := by
  cases q with
  | zero => unfold partR; rw [if_neg h]
  | succ q => unfold partR; rw [if_neg fun z => h (.inl z), if_neg fun z => h (.inr z)]
theorem part_ok {ws : List (List Nat)} (hw : WsOk ws) (m : List Cell) : ∀ (q : Nat), q ≤ 8 → ∀ (n : Nat), 3 * q + 1 ≤ n → ∀ a : Nat, f_part_at n [.lst (ws.map encS), .int (a : Int), .int (8 - (q : Int))] m = some (encT (partR ws q a), m) ∧ (a ≤ ws.length + 1 → f_law_read_not n [.lst (ws.map encS), .int (a : Int), .int (8 - (q : Int))] m = some (encL (partR ws q a), m)) := by
  intro q
  induction q with
  | zero =>
    intro _ n hn a
    obtain ⟨n, rfl⟩ : ∃ k, n = k + 1 := ⟨n - 1, by omega⟩
    rw [f_part_at_succ, f_law_read_not_succ]
    by_cases c : wA ws a = NOT ∨ wA ws a = [40]
    · have e : partR ws 0 a = none := by unfold partR; rw [if_pos c]
      rw [e]
      exact ⟨pa_eight hw m a _ _ _ _ c (by simp), fun _ => la_eight hw m a _ _ _ _ c (by simp)⟩
    · rw [partR_cmp c]
      exact ⟨pa_cmp hw m a _ _ _ _ c, fun _ => la_cmp hw m a _ _ _ _ c⟩
  | succ q ih =>
    intro hq n hn a
    obtain ⟨n, rfl⟩ : ∃ k, n = k + 2 + 1 := ⟨n - 3, by omega⟩
    have hop : (8 : Int) - ((q + 1 : Nat) : Int) + 1 = 8 - (q : Int) := by omega
    have hop8 : ¬ (8 : Int) - ((q + 1 : Nat) : Int) = 8 := by omega
    obtain ⟨p1, p2⟩ := ih (by omega) (n + 2) (by omega) (a + 1)
    have o1 := or_at_ok hw m (n + 1) (8 - (q : Int)) (joS ws (partR ws q) AND) (joS_go (partR_go hw q) AND) (fun b => and_at_ok hw m n (8 - (q : Int)) (partR ws q) (partR_go hw q) (fun b => (ih (by omega) n (by omega) b).1) b) (a + 1)
    have o2 := fun ha => law_read_or_ok hw m (n + 1) (8 - (q : Int)) (joS ws (partR ws q) AND) (joS_go (partR_go hw q) AND) (fun b hb => law_read_and_ok hw m n (8 - (q : Int)) (partR ws q) (partR_go hw q) (fun b hb => (ih (by omega) n (by omega) b).2 hb) b hb) (a + 1) ha
    rw [f_part_at_succ, f_law_read_not_succ]
    rw [← hop] at p1 p2 o1 o2
    by_cases c0 : wA ws a = NOT
    · rw [partR_not c0]
      have ha : a < ws.length := by
        apply Decidable.byContradiction
        intro z
        rw [wA_out z] at c0
        cases c0
      exact ⟨pa_not hw m a _ _ _ _ c0 hop8 _ p1, fun _ => la_not hw m a _ _ _ _ c0 hop8 _ (p2 (by omega))⟩
    · by_cases c3 : wA ws a = [40]
      · rw [partR_par c3]
        have ha := one_in hw c3
        exact ⟨pa_par hw m a _ _ _ _ c3 hop8 _ o1, fun _ => la_par hw m a _ _ _ _ c3 hop8 _ (o2 (by omega))⟩
      · have c : ¬ (wA ws a = NOT ∨ wA ws a = [40]) := fun z => z.elim c0 c3
        rw [partR_cmp c]
        exact ⟨pa_cmp hw m a _ _ _ _ c, fun _ => la_cmp hw m a _ _ _ _ c⟩
/-! whole rows -/
def topR (ws : List (List Nat)) : Option (M.D × Nat) := joS ws (joS ws (partR ws 8) AND) ORR 0
def finO (n : Nat) : Option (M.D × Nat) → Option M.D
  | none => none
  | some (d, b) => if b = n then some d else none
def rdC (ws : List (List Nat)) : Option M.D := finO ws.length (topR ws)
def oD : Option M.D → M.D
  | none => .non
  | some d => d
theorem top_n {ws : List (List Nat)} (hw : WsOk ws) (m : List Cell) (n : Nat) (hn : 25 ≤ n) : f_or_at (n + 1 + 1) [.lst (ws.map encS), .int 0, .int 0] m = some (encT (topR ws), m) ∧ f_law_read_or (n + 1 + 1) [.lst (ws.map encS), .int 0, .int 0] m = some (encL (topR ws), m) := by
  have p1 := fun b => (part_ok hw m 8 (by omega) n (by omega) b).1
  have p2 := fun b => (part_ok hw m 8 (by omega) n (by omega) b).2
  simp only [show (8 : Int) - ((8 : Nat) : Int) = 0 from rfl] at p1 p2
  have o1 := or_at_ok hw m (n + 1) 0 (joS ws (partR ws 8) AND) (joS_go (partR_go hw 8) AND) (fun b => and_at_ok hw m n 0 (partR ws 8) (partR_go hw 8) p1 b) 0
  have o2 := law_read_or_ok hw m (n + 1) 0 (joS ws (partR ws 8) AND) (joS_go (partR_go hw 8) AND) (fun b hb => law_read_and_ok hw m n 0 (partR ws 8) (partR_go hw 8) p2 b hb) 0 (by omega)
  exact ⟨o1, o2⟩
theorem top_ok {ws : List (List Nat)} (hw : WsOk ws) (m : List Cell) : f_or_at 48 [.lst (ws.map encS), .int 0, .int 0] m = some (encT (topR ws), m) ∧ f_law_read_or 48 [.lst (ws.map encS), .int 0, .int 0] m = some (encL (topR ws), m) := by
  have h := top_n hw m 46 (by omega)
  have e : 46 + 1 + 1 = 48 := by omega
  generalize 46 + 1 + 1 = k at h e
  subst e
  exact h
theorem moa_ok {ws : List (List Nat)} (hw : WsOk ws) (o : Option (M.D × Nat)) (m : List Cell) : f_made_of_all [encT o, .lst (ws.map encS)] m = some (oD (finO ws.length o), m) := by
  unfold finO
  have hl := len_W hw
  cases o with
  | none =>
    unfold encT oD
    generalize ws.map encS = W at *
    unfold f_made_of_all b_made_of_all
    simp [fnM_ap]
  | some db =>
    obtain ⟨d, b⟩ := db
    dsimp only
    by_cases c : b = ws.length
    · rw [if_pos c]
      unfold encT oD
      dsimp only
      generalize ws.map encS = W at *
      unfold f_made_of_all b_made_of_all
      simp [fnM_ap, hl, c]
    · rw [if_neg c]
      unfold encT oD
      dsimp only
      generalize ws.map encS = W at *
      unfold f_made_of_all b_made_of_all
      simp [fnM_ap, hl, nI, c]
theorem cond_aux (r1 : FF) (W : List M.D) (E R : M.D) (m : List Cell) (h1 : r1 [.lst W, .int 0, .int 0] m = some (E, m)) (h3 : f_made_of_all [E, .lst W] m = some (R, m)) : fnM 1 (sRet (eFn 2 f_made_of_all (aCons (eFn 3 r1 (aCons (eVar 0) (aCons (eC (.int 0)) (aCons (eC (.int 0)) aNil)))) (aCons (eVar 0) aNil)))) [.lst W] m = some (R, m) := by
  generalize f_made_of_all = mf at *
  simp [fnM_ap, h1, h3]
theorem law_aux (r2 : FF) {ws : List (List Nat)} (W : List M.D) (hW : ((W.length : Nat) : Int) = (ws.length : Int)) (m : List Cell) (o : Option (M.D × Nat)) (h1 : r2 [.lst W, .int 0, .int 0] m = some (encL o, m)) : fnM 2 (sSeq (sAsg (eFn 3 r2 (aCons (eVar 0) (aCons (eC (.int 0)) (aCons (eC (.int 0)) aNil)))) (gNm 1)) (sSeq (sIf (bOr (bOf (eOp gIsN (eVar 1) (eC .non))) (bOf (eOp gNe (eOpL gIx 1 (eC (.int 1))) (eCallV gLen 0)))) (sRet (eC .non)) sNil) (sRet (eOpL gIx 1 (eC (.int 0)))))) [.lst W] m = some (oD (finO ws.length o), m) := by
  unfold finO
  cases o with
  | none =>
    unfold encL at h1
    dsimp only [oD] at h1 ⊢
    simp [fnM_ap, h1]
  | some db =>
    obtain ⟨d, b⟩ := db
    unfold encL at h1
    dsimp only at h1 ⊢
    by_cases c : b = ws.length
    · rw [if_pos c]
      dsimp only [oD]
      simp [fnM_ap, h1, hW, c]
    · rw [if_neg c]
      dsimp only [oD]
      simp [fnM_ap, h1, hW, nI, c]
theorem cond_of_ok {ws : List (List Nat)} (hw : WsOk ws) (m : List Cell) : f_condition_of [.lst (ws.map encS)] m = some (oD (rdC ws), m) ∧ f_law_read_condition [.lst (ws.map encS)] m = some (oD (rdC ws), m) := by
  obtain ⟨o1, o2⟩ := top_ok hw m
  exact ⟨cond_aux (f_or_at 48) _ _ _ m o1 (moa_ok hw (topR ws) m), law_aux (f_law_read_or 48) _ (len_W hw) m (topR ws) o2⟩
end Lk03



namespace Lk03
open PySem L2 M
/-! conditions -/
mutual
inductive Cn where
  | cmp (g : List Nat) (l r : Ex)
  | neg (c : Cn)
  | many (b : Bool) (cs : CnL)
inductive CnL where
  | nil
  | cons (c : Cn) (cs : CnL)
end
def kwB : Bool → List Nat
  | true => AND
  | false => ORR
mutual
def encC : Cn → M.D
  | .cmp g l r => cmD g l r
  | .neg c => .tup [.str (S NOT), encC c]
  | .many b cs => .tup [.str (S (kwB b)), .tup (encCs cs)]
def encCs : CnL → List M.D
  | .nil => []
  | .cons c cs => encC c :: encCs cs
end
def CnL.len : CnL → Nat
  | .nil => 0
  | .cons _ cs => cs.len + 1
mutual
def COk : Cn → Prop
  | .cmp g l r => g ∈ SGS ∧ ExOk l ∧ ExOk r
  | .neg c => COk c
  | .many _ cs => 2 ≤ cs.len ∧ COks cs
def COks : CnL → Prop
  | .nil => True
  | .cons c cs => COk c ∧ COks cs
end
/-- is it one that is joined; is it joined by or -/
def isMany : Cn → Bool
  | .many _ _ => true
  | _ => false
def isOr : Cn → Bool
  | .many false _ => true
  | _ => false
/-- must it stand in parentheses below such a word (true: and, not) -/
def need : Bool → Cn → Bool
  | true, c => isMany c
  | false, c => isOr c
def rep (p : Nat) (w : List Nat) : List (List Nat) := List.replicate p w
def pairsW (p : Nat) (ws : List (List Nat)) : List (List Nat) := rep p [40] ++ ws ++ rep p [41]
mutual
inductive Dr : Cn → Nat → List (List Nat) → Nat → Prop
  | cmp {g : List Nat} {l r : Ex} (p : Nat) : Dr (.cmp g l r) p (pairsW p (wd l ++ [g] ++ wd r)) p
  | neg {c : Cn} {p' : Nat} {ws : List (List Nat)} {dep : Nat} (p : Nat) : Dr c p' ws dep → (need true c = true → 1 ≤ p') → Dr (.neg c) p (pairsW p ([NOT] ++ ws)) (p + 1 + dep)
  | many {b : Bool} {cs : CnL} {ws : List (List Nat)} {dep : Nat} (p : Nat) : DrL b cs ws dep → Dr (.many b cs) p (pairsW p ws) (p + dep)
inductive DrL : Bool → CnL → List (List Nat) → Nat → Prop
  | one {b : Bool} {c : Cn} {p : Nat} {ws : List (List Nat)} {dep : Nat} : Dr c p ws dep → (need b c = true → 1 ≤ p) → DrL b (.cons c .nil) ws dep
  | cons {b : Bool} {c : Cn} {p : Nat} {ws : List (List Nat)} {dep : Nat} {cs : CnL} {vs : List (List Nat)} {dep2 : Nat} : Dr c p ws dep → (need b c = true → 1 ≤ p) → DrL b cs vs dep2 → DrL b (.cons c cs) (ws ++ ([kwB b] ++ vs)) (max dep dep2)
end
/-! reading them -/
theorem exR_at (xs vs : List (List Nat)) {e : Ex} (h : ExOk e) (hv : wA vs 0 ≠ [43] ∧ wA vs 0 ≠ [45] ∧ wA vs 0 ≠ [91]) : exR (xs ++ (wd e ++ vs)) xs.length = some (e, xs.length + (wd e).length) := by
  have w0 := wA_app (xs := xs) (ys := wd e ++ vs) 0
  have w1 := wA_app (xs := xs) (ys := wd e ++ vs) 1
  rw [Nat.add_zero] at w0
  cases e with
  | pl p =>
    have hp : PeOk p := h
    have e1 := paR_ok xs vs hp ⟨hv.1, hv.2.1⟩
    have ew : wd (.pl p) = wdP p := rfl
    rw [ew] at w0 w1 ⊢
    have hno : ¬ (isName (wA (xs ++ (wdP p ++ vs)) xs.length) = true ∧ wA (xs ++ (wdP p ++ vs)) (xs.length + 1) = [91]) := by
      rw [w0, w1]
      rintro ⟨z1, z2⟩
      cases p with
      | num n =>
        have hn : NoOk n := hp
        have ew : wdP (.num n) = if n < 0 then [[45], nl (-n).toNat] else [nl n.toNat] := rfl
        rw [ew] at z1
        by_cases hn0 : n < 0
        · rw [if_pos hn0] at z1
          rw [show wA ([[45], nl (-n).toNat] ++ vs) 0 = [45] from rfl] at z1
          exact absurd z1 (by decide +kernel)
        · rw [if_neg hn0] at z1
          rw [show wA ([nl n.toNat] ++ vs) 0 = nl n.toNat from rfl, num_notname (isNum_c hn (by omega))] at z1
          cases z1
      | var s c =>
        rw [show wA (wdP (.var s c) ++ vs) 1 = wA (plusW c ++ vs) 0 from rfl] at z2
        unfold plusW at z2
        split at z2
        · exact hv.2.2 z2
        · split at z2
          · exact absurd (show [43] = [91] from z2) (by decide)
          · exact absurd (show [45] = [91] from z2) (by decide)
    unfold exR
    rw [if_neg hno, e1]
  | item s p c =>
    obtain ⟨h1, h2, h3⟩ := h
    have e6 : wA ([[93]] ++ (plusW c ++ vs)) 0 = [93] := rfl
    have e1 := paR_ok (xs ++ [s, [91]]) ([[93]] ++ (plusW c ++ vs)) h2 ⟨by rw [e6]; decide, by rw [e6]; decide⟩
    have ew : xs ++ (wd (.item s p c) ++ vs) = xs ++ [s, [91]] ++ (wdP p ++ ([[93]] ++ (plusW c ++ vs))) := by
      show xs ++ ([s, [91]] ++ wdP p ++ [[93]] ++ plusW c ++ vs) = _
      simp
    have el : (wd (.item s p c)).length = 2 + (wdP p).length + 1 + (plusW c).length := by
      show ([s, [91]] ++ wdP p ++ [[93]] ++ plusW c).length = _
      simp; omega
    have e2 : wA (xs ++ [s, [91]] ++ (wdP p ++ ([[93]] ++ (plusW c ++ vs)))) (xs.length + 2 + (wdP p).length) = [93] := by
      have := wA_app (xs := xs ++ [s, [91]] ++ wdP p) (ys := [[93]] ++ (plusW c ++ vs)) 0
      rw [List.append_assoc (xs ++ [s, [91]])] at this
      rw [show ((xs ++ [s, [91]] ++ wdP p).length + 0) = xs.length + 2 + (wdP p).length by simp; omega] at this
      exact this
    have e3 := wA_plus (xs ++ [s, [91]] ++ wdP p ++ [[93]]) vs ⟨hv.1, hv.2.1⟩ h3
    have e4 : xs ++ [s, [91]] ++ wdP p ++ [[93]] ++ (plusW c ++ vs) = xs ++ [s, [91]] ++ (wdP p ++ ([[93]] ++ (plusW c ++ vs))) := by simp
    have e5 : (xs ++ [s, [91]] ++ wdP p ++ [[93]]).length = xs.length + 2 + (wdP p).length + 1 := by simp; omega
    rw [e4, e5] at e3
    rw [show (xs ++ [s, [91]]).length = xs.length + 2 by simp] at e1
    rw [show wA (wd (.item s p c) ++ vs) 0 = s from rfl] at w0
    rw [show wA (wd (.item s p c) ++ vs) 1 = [91] from rfl] at w1
    rw [ew] at w0 w1 ⊢
    unfold exR
    rw [w0, w1, if_pos ⟨h1, rfl⟩, e1]
    dsimp only
    rw [e2, if_pos rfl, e3]
    dsimp only
    rw [el]
    congr 2
    omega
/-- what may stand behind -/
def Pst (vs : List (List Nat)) : Prop := wA vs 0 = [] ∨ wA vs 0 = [41] ∨ wA vs 0 = AND ∨ wA vs 0 = ORR
theorem Pst.free {vs : List (List Nat)} (h : Pst vs) : wA vs 0 ≠ [43] ∧ wA vs 0 ≠ [45] ∧ wA vs 0 ≠ [91] := by
  rcases h with h | h | h | h <;> rw [h] <;> decide
theorem first_wd {e : Ex} (h : ExOk e) (vs : List (List Nat)) : ¬ (wA (wd e ++ vs) 0 = NOT ∨ wA (wd e ++ vs) 0 = [40]) := by
  have nm : ∀ s, NmOk s → ¬ (s = NOT ∨ s = [40]) := fun s hs z => by
    rcases z with z | z
    · subst z; exact hs.spec.1 (by decide +kernel)
    · subst z; exact absurd (hs.spec.2.2.2 40 (by simp)) (by decide)
  have np : ∀ p, PeOk p → ¬ (wA (wdP p ++ vs) 0 = NOT ∨ wA (wdP p ++ vs) 0 = [40]) := fun p hp => by
    cases p with
    | num n =>
      have ew : wdP (.num n) = if n < 0 then [[45], nl (-n).toNat] else [nl n.toNat] := rfl
      rw [ew]
      split
      · rw [show wA ([[45], nl (-n).toNat] ++ vs) 0 = [45] from rfl]; decide
      · rw [show wA ([nl n.toNat] ++ vs) 0 = nl n.toNat from rfl]
        rintro (z | z)
        · have := nl_DD n.toNat 110 (by rw [z]; decide)
          exact absurd this (by decide)
        · have := nl_DD n.toNat 40 (by rw [z]; decide)
          exact absurd this (by decide)
    | var s c => exact nm s hp.1
  cases e with
  | pl p => exact np p h
  | item s p c => exact nm s h.1
theorem sgs_free : ∀ g ∈ SGS, g ≠ [43] ∧ g ≠ [45] ∧ g ≠ [91] := by decide +kernel
theorem cmpR_at (xs vs : List (List Nat)) {g : List Nat} {l r : Ex} (hg : g ∈ SGS) (hl : ExOk l) (hr : ExOk r) (hv : Pst vs) : cmpR (xs ++ (wd l ++ [g] ++ wd r ++ vs)) xs.length = some (cmD g l r, xs.length + (wd l ++ [g] ++ wd r).length) := by
  have a1 := exR_at xs ([g] ++ (wd r ++ vs)) hl (sgs_free g hg)
  have a2 := exR_at (xs ++ wd l ++ [g]) vs hr hv.free
  have b1 : xs ++ (wd l ++ [g] ++ wd r ++ vs) = xs ++ (wd l ++ ([g] ++ (wd r ++ vs))) := by simp
  have b2 : xs ++ wd l ++ [g] ++ (wd r ++ vs) = xs ++ (wd l ++ ([g] ++ (wd r ++ vs))) := by simp
  have b3 : (xs ++ wd l ++ [g]).length = xs.length + (wd l).length + 1 := by simp; omega
  have w := wA_app (xs := xs ++ wd l) (ys := [g] ++ (wd r ++ vs)) 0
  rw [List.append_assoc xs, Nat.add_zero, List.length_append] at w
  rw [show wA ([g] ++ (wd r ++ vs)) 0 = g from rfl] at w
  rw [b2, b3] at a2
  rw [b1]
  unfold cmpR
  rw [a1]
  dsimp only
  rw [w, if_pos hg, a2]
  dsimp only
  congr 2
  simp; omega
def res (c : Cn) (a n dep q : Nat) : Option (M.D × Nat) := if dep ≤ q then some (encC c, a + n) else none
theorem joS_one {ws : List (List Nat)} {rd : Nat → Option (M.D × Nat)} {kw : List Nat} {a : Nat} (o : Option (M.D × Nat)) (h : rd a = o) (hk : ∀ d b, o = some (d, b) → wA ws b ≠ kw) : joS ws rd kw a = o := by
  unfold joS seqR
  rw [h]
  cases o with
  | none => rfl
  | some db =>
    obtain ⟨d, b⟩ := db
    have e : seqT ws rd kw ws.length b = some ([], b) := by
      cases ws.length with
      | zero => unfold seqT; rw [if_neg (hk d b rfl)]
      | succ k => unfold seqT; rw [if_neg (hk d b rfl)]
    dsimp only
    rw [e]; rfl
theorem behind (pre w post : List (List Nat)) : wA (pre ++ (w ++ post)) (pre.length + w.length) = wA post 0 := by
  have := wA_app (xs := pre ++ w) (ys := post) 0
  rw [List.append_assoc, List.length_append, Nat.add_zero] at this
  exact this
theorem res_behind {c : Cn} {pre w post : List (List Nat)} {dep q : Nat} {d : M.D} {b : Nat} (h : res c pre.length w.length dep q = some (d, b)) : wA (pre ++ (w ++ post)) b = wA post 0 := by
  unfold res at h
  split at h
  · cases h; exact behind pre w post
  · cases h
/-- the readers: a part, parts with and, parts with or -/
def R2 (ws : List (List Nat)) (q : Nat) : Nat → Option (M.D × Nat) := joS ws (partR ws q) AND
def R3 (ws : List (List Nat)) (q : Nat) : Nat → Option (M.D × Nat) := joS ws (R2 ws q) ORR
structure Rd (c : Cn) (p : Nat) (w : List (List Nat)) (dep : Nat) : Prop where
  one : ∀ pre post q, Pst post → (1 ≤ p ∨ isMany c = false) → partR (pre ++ (w ++ post)) q pre.length = res c pre.length w.length dep q
  two : ∀ pre post q, Pst post → (1 ≤ p ∨ isOr c = false) → wA post 0 ≠ AND → R2 (pre ++ (w ++ post)) q pre.length = res c pre.length w.length dep q
  three : ∀ pre post q, Pst post → wA post 0 ≠ AND → wA post 0 ≠ ORR → R3 (pre ++ (w ++ post)) q pre.length = res c pre.length w.length dep q
theorem Rd.of1 {c : Cn} {p : Nat} {w : List (List Nat)} {dep : Nat} (hc : 1 ≤ p ∨ isMany c = false) (h : ∀ pre post q, Pst post → partR (pre ++ (w ++ post)) q pre.length = res c pre.length w.length dep q) : Rd c p w dep := by
  have t2 : ∀ pre post q, Pst post → wA post 0 ≠ AND → R2 (pre ++ (w ++ post)) q pre.length = res c pre.length w.length dep q := fun pre post q hp h1 =>
    joS_one _ (h pre post q hp) fun d b e => by rw [res_behind e]; exact h1
  exact ⟨fun pre post q hp _ => h pre post q hp, fun pre post q hp _ h1 => t2 pre post q hp h1, fun pre post q hp h1 h2 => joS_one _ (t2 pre post q hp h1) fun d b e => by rw [res_behind e]; exact h2⟩
theorem Rd.wrap {c : Cn} {p : Nat} {w : List (List Nat)} {dep : Nat} (h : Rd c p w dep) : Rd c (p + 1) ([[40]] ++ w ++ [[41]]) (dep + 1) := by
  refine Rd.of1 (.inl (by omega)) fun pre post q hp => ?_
  have ew : pre ++ ([[40]] ++ w ++ [[41]] ++ post) = pre ++ [[40]] ++ (w ++ ([[41]] ++ post)) := by simp
  have el : ([[40]] ++ w ++ [[41]]).length = w.length + 2 := by simp
  have w0 : wA (pre ++ ([[40]] ++ w ++ [[41]] ++ post)) pre.length = [40] := by
    have := wA_app (xs := pre) (ys := [[40]] ++ w ++ [[41]] ++ post) 0
    rw [Nat.add_zero] at this
    exact this
  cases q with
  | zero =>
    unfold partR res
    rw [if_pos (.inr w0), if_neg (by omega)]
  | succ q =>
    rw [partR_par w0]
    have h3 := h.three (pre ++ [[40]]) ([[41]] ++ post) q (.inr (.inl rfl)) (by rw [show wA ([[41]] ++ post) 0 = [41] from rfl]; decide) (by rw [show wA ([[41]] ++ post) 0 = [41] from rfl]; decide)
    rw [← ew, show (pre ++ [[40]] : List (List Nat)).length = pre.length + 1 by simp] at h3
    unfold R3 R2 at h3
    rw [h3]
    unfold res
    by_cases hd : dep ≤ q
    · rw [if_pos hd, if_pos (by omega)]
      have hb := behind (pre ++ [[40]]) w ([[41]] ++ post)
      rw [← ew, show (pre ++ [[40]] : List (List Nat)).length = pre.length + 1 by simp] at hb
      rw [show wA ([[41]] ++ post) 0 = [41] from rfl] at hb
      unfold parO
      dsimp only
      rw [if_pos hb, el]
      congr 2
      omega
    · rw [if_neg hd, if_neg (by omega)]; rfl
theorem Rd.pairs {c : Cn} {w : List (List Nat)} {dep : Nat} (h : Rd c 0 w dep) : ∀ p, Rd c p (pairsW p w) (p + dep)
  | 0 => by
    unfold pairsW rep
    simpa using h
  | p + 1 => by
    have := (Rd.pairs h p).wrap
    unfold pairsW rep at this ⊢
    rw [show p + 1 + dep = p + dep + 1 by omega]
    rw [List.replicate_succ, List.replicate_succ']
    simpa using this
theorem CnL.len_enc : ∀ cs : CnL, (encCs cs).length = cs.len
  | .nil => rfl
  | .cons c cs => by
    show (encCs cs).length + 1 = cs.len + 1
    rw [CnL.len_enc cs]
/-- parts one behind the other -/
def RdL (b : Bool) (cs : CnL) (w : List (List Nat)) (dep : Nat) : Prop := ∀ pre post q k, Pst post → wA post 0 ≠ AND → wA post 0 ≠ kwB b → w.length ≤ k →
  seqR (pre ++ (w ++ post)) (if b = true then partR (pre ++ (w ++ post)) q else R2 (pre ++ (w ++ post)) q) (kwB b) k pre.length = if dep ≤ q then some (encCs cs, pre.length + w.length) else none
theorem rd_b {b : Bool} {c : Cn} {p : Nat} {w : List (List Nat)} {dep : Nat} (h : Rd c p w dep) (hn : need b c = true → 1 ≤ p) (pre post : List (List Nat)) (q : Nat) (hp : Pst post) (h1 : b = false → wA post 0 ≠ AND) : (if b = true then partR (pre ++ (w ++ post)) q else R2 (pre ++ (w ++ post)) q) pre.length = res c pre.length w.length dep q := by
  cases b with
  | true =>
    rw [if_pos rfl]
    refine h.one pre post q hp ?_
    cases hm : isMany c with
    | true => exact .inl (hn hm)
    | false => exact .inr rfl
  | false =>
    rw [if_neg (by simp)]
    refine h.two pre post q hp ?_ (h1 rfl)
    cases hm : isOr c with
    | true => exact .inl (hn hm)
    | false => exact .inr rfl
theorem RdL.many {b : Bool} {cs : CnL} {w : List (List Nat)} {dep : Nat} (h : RdL b cs w dep) (h2 : 2 ≤ cs.len) : Rd (.many b cs) 0 w dep := by
  have hj : ∀ pre post q, Pst post → wA post 0 ≠ AND → wA post 0 ≠ kwB b → joS (pre ++ (w ++ post)) (if b = true then partR (pre ++ (w ++ post)) q else R2 (pre ++ (w ++ post)) q) (kwB b) pre.length = res (.many b cs) pre.length w.length dep q := fun pre post q hp h1 h3 => by
    unfold joS
    rw [h pre post q _ hp h1 h3 (by simp; omega)]
    unfold res
    split
    · show some (joinD (kwB b) (encCs cs), _) = _
      unfold joinD
      rw [if_neg (by rw [CnL.len_enc]; omega)]
      rfl
    · rfl
  cases b with
  | true =>
    have t2 : ∀ pre post q, Pst post → wA post 0 ≠ AND → R2 (pre ++ (w ++ post)) q pre.length = res (.many true cs) pre.length w.length dep q := fun pre post q hp h1 => hj pre post q hp h1 h1
    exact ⟨fun pre post q hp hc => absurd hc (by simp [isMany]), fun pre post q hp _ h1 => t2 pre post q hp h1, fun pre post q hp h1 h3 => joS_one _ (t2 pre post q hp h1) fun d b e => by rw [res_behind e]; exact h3⟩
  | false =>
    exact ⟨fun pre post q hp hc => absurd hc (by simp [isMany]), fun pre post q hp hc h1 => absurd hc (by simp [isOr]), fun pre post q hp h1 h3 => hj pre post q hp h1 h3⟩
theorem pst_kw (b : Bool) (vs : List (List Nat)) : Pst ([kwB b] ++ vs) := by
  cases b
  · exact .inr (.inr (.inr rfl))
  · exact .inr (.inr (.inl rfl))
theorem rd_cmp {g : List Nat} {l r : Ex} (h : COk (.cmp g l r)) : Rd (.cmp g l r) 0 (wd l ++ [g] ++ wd r) 0 := by
  obtain ⟨hg, hl, hr⟩ := h
  refine Rd.of1 (.inr rfl) fun pre post q hp => ?_
  have w0 : wA (pre ++ (wd l ++ [g] ++ wd r ++ post)) pre.length = wA (wd l ++ ([g] ++ wd r ++ post)) 0 := by
    have := wA_app (xs := pre) (ys := wd l ++ [g] ++ wd r ++ post) 0
    rw [Nat.add_zero] at this
    rw [this]
    simp
  rw [partR_cmp (by rw [w0]; exact first_wd hl _), cmpR_at pre post hg hl hr hp]
  unfold res
  rw [if_pos (Nat.zero_le _)]; rfl
theorem rd_neg {c : Cn} {p' : Nat} {ws : List (List Nat)} {dep : Nat} (ih : Rd c p' ws dep) (hn : need true c = true → 1 ≤ p') : Rd (.neg c) 0 ([NOT] ++ ws) (1 + dep) := by
  refine Rd.of1 (.inr rfl) fun pre post q hp => ?_
  have w0 : wA (pre ++ ([NOT] ++ ws ++ post)) pre.length = NOT := by
    have := wA_app (xs := pre) (ys := [NOT] ++ ws ++ post) 0
    rw [Nat.add_zero] at this
    exact this
  cases q with
  | zero =>
    unfold partR res
    rw [if_pos (.inl w0), if_neg (by omega)]
  | succ q =>
    rw [partR_not w0]
    have ew : pre ++ ([NOT] ++ ws ++ post) = pre ++ [NOT] ++ (ws ++ post) := by simp
    have h1 := ih.one (pre ++ [NOT]) post q hp (by
      cases hm : isMany c with
      | true => exact .inl (hn hm)
      | false => exact .inr rfl)
    rw [← ew, show (pre ++ [NOT]).length = pre.length + 1 by simp] at h1
    rw [h1]
    unfold res
    by_cases hq : dep ≤ q
    · rw [if_pos hq, if_pos (by omega)]
      unfold notO
      dsimp only
      congr 2
      simp; omega
    · rw [if_neg hq, if_neg (by omega)]; rfl
theorem rdl_one {b : Bool} {c : Cn} {p : Nat} {w : List (List Nat)} {dep : Nat} (hr0 : Rd c p w dep) (hn : need b c = true → 1 ≤ p) : RdL b (.cons c .nil) w dep := by
  intro pre post q k hp h1 h2 hk
  have hr := rd_b hr0 hn pre post q hp (fun _ => h1)
  unfold seqR
  rw [hr]
  unfold res
  by_cases hq : dep ≤ q
  · rw [if_pos hq, if_pos hq]
    dsimp only
    have hb := behind pre w post
    have e : seqT (pre ++ (w ++ post)) (if b = true then partR (pre ++ (w ++ post)) q else R2 (pre ++ (w ++ post)) q) (kwB b) k (pre.length + w.length) = some ([], pre.length + w.length) := by
      cases k with
      | zero => unfold seqT; rw [if_neg (by rw [hb]; exact h2)]
      | succ k => unfold seqT; rw [if_neg (by rw [hb]; exact h2)]
    rw [e]; rfl
  · rw [if_neg hq, if_neg hq]
theorem rdl_cons {b : Bool} {c : Cn} {p : Nat} {w : List (List Nat)} {dep : Nat} {cs : CnL} {vs : List (List Nat)} {dep2 : Nat} (hr0 : Rd c p w dep) (hn : need b c = true → 1 ≤ p) (ih0 : RdL b cs vs dep2) : RdL b (.cons c cs) (w ++ ([kwB b] ++ vs)) (max dep dep2) := by
  intro pre post q k hp h1 h2 hk
  have hr := rd_b hr0 hn pre ([kwB b] ++ (vs ++ post)) q (pst_kw b _) (fun z => by subst z; rw [show wA ([kwB false] ++ (vs ++ post)) 0 = ORR from rfl]; decide)
  have ew : pre ++ (w ++ ([kwB b] ++ vs) ++ post) = pre ++ (w ++ ([kwB b] ++ (vs ++ post))) := by simp
  have ew2 : pre ++ (w ++ ([kwB b] ++ vs) ++ post) = pre ++ w ++ [kwB b] ++ (vs ++ post) := by simp
  rw [← ew] at hr
  have hb := behind pre w ([kwB b] ++ (vs ++ post))
  rw [← ew, show wA ([kwB b] ++ (vs ++ post)) 0 = kwB b from rfl] at hb
  have el : (w ++ ([kwB b] ++ vs)).length = w.length + 1 + vs.length := by simp; omega
  rw [el] at hk
  obtain ⟨k, rfl⟩ : ∃ j, k = j + 1 := ⟨k - 1, by omega⟩
  have ih := ih0 (pre ++ w ++ [kwB b]) post q k hp h1 h2 (by omega)
  rw [← ew2, show (pre ++ w ++ [kwB b]).length = pre.length + w.length + 1 by simp; omega] at ih
  unfold seqR
  rw [hr]
  unfold res
  by_cases hq : dep ≤ q
  · rw [if_pos hq]
    dsimp only
    have e : seqT (pre ++ (w ++ ([kwB b] ++ vs) ++ post)) (if b = true then partR (pre ++ (w ++ ([kwB b] ++ vs) ++ post)) q else R2 (pre ++ (w ++ ([kwB b] ++ vs) ++ post)) q) (kwB b) (k + 1) (pre.length + w.length) = seqR (pre ++ (w ++ ([kwB b] ++ vs) ++ post)) (if b = true then partR (pre ++ (w ++ ([kwB b] ++ vs) ++ post)) q else R2 (pre ++ (w ++ ([kwB b] ++ vs) ++ post)) q) (kwB b) k (pre.length + w.length + 1) := by
      conv => lhs; unfold seqT
      rw [if_pos hb]; rfl
    rw [e, ih]
    by_cases hq2 : dep2 ≤ q
    · rw [if_pos hq2, if_pos (Nat.max_le.mpr ⟨hq, hq2⟩)]
      show some (encC c :: encCs cs, _) = some (encCs (.cons c cs), _)
      rw [el]
      congr 2
      omega
    · rw [if_neg hq2, if_neg (fun z => hq2 (Nat.max_le.mp z).2)]; rfl
  · rw [if_neg hq, if_neg (fun z => hq (Nat.max_le.mp z).1)]
mutual
theorem dr_rd : ∀ (c : Cn) {p : Nat} {w : List (List Nat)} {dep : Nat}, COk c → Dr c p w dep → Rd c p w dep
  | .cmp g l r, p, _, _, h, hd => by
    cases hd
    exact (rd_cmp h).pairs p
  | .neg c, p, _, _, h, hd => by
    cases hd with
    | neg _ hd hn =>
      have := (rd_neg (dr_rd c h hd) hn).pairs p
      rw [← Nat.add_assoc] at this
      exact this
  | .many b cs, p, _, _, h, hd => by
    cases hd with
    | many _ hl => exact ((dr_rdl cs h.2 hl).many h.1).pairs p
theorem dr_rdl : ∀ (cs : CnL) {b : Bool} {w : List (List Nat)} {dep : Nat}, COks cs → DrL b cs w dep → RdL b cs w dep
  | .nil, b, w, dep, h, hd => by cases hd
  | .cons c cs, b, _, _, h, hd => by
    cases hd with
    | one hd hn => exact rdl_one (dr_rd c h.1 hd) hn
    | cons hd hn hl => exact rdl_cons (dr_rd c h.1 hd) hn (dr_rdl cs h.2 hl)
end
theorem rdC_dr {c : Cn} {p : Nat} {w : List (List Nat)} {dep : Nat} (h : COk c) (hd : Dr c p w dep) : rdC w = if dep ≤ 8 then some (encC c) else none := by
  have h3 := (dr_rd c h hd).three [] [] 8 (.inl rfl) (by decide) (by decide)
  rw [List.nil_append, List.append_nil, List.length_nil] at h3
  unfold R3 R2 at h3
  unfold rdC topR
  rw [h3]
  unfold res
  by_cases hq : dep ≤ 8
  · rw [if_pos hq, if_pos hq]
    show (if 0 + w.length = w.length then some (encC c) else none) = _
    rw [if_pos (by omega)]
  · rw [if_neg hq, if_neg hq]; rfl
end Lk03



namespace Lk03
open PySem L2 M
/-! conditions that are drawn -/
mutual
def lv : Cn → Nat
  | .cmp _ _ _ => 1
  | .neg c => lv c
  | .many _ cs => lvs cs
def lvs : CnL → Nat
  | .nil => 0
  | .cons c cs => lv c + lvs cs
end
mutual
def ht : Cn → Nat
  | .cmp _ _ _ => 0
  | .neg c => ht c + 1
  | .many _ cs => hts cs + 1
def hts : CnL → Nat
  | .nil => 0
  | .cons c cs => max (ht c) (hts cs)
end
theorem name_of {z : Str} (h : isName (un z) = true) : NmOk (un z) := h
theorem at_names (zs : List Str) (h : (zs.all fun z => isName (un z)) = true) {v : Int} (h0 : 0 ≤ v) (h1 : v < zs.length) : ∃ w, atI (zs.map M.D.str) v = some (.str (S w)) ∧ NmOk w := by
  have hl : v.toNat < zs.length := by omega
  rw [List.all_eq_true] at h
  have := h zs[v.toNat] (List.getElem_mem _)
  refine ⟨un zs[v.toNat], ?_, this⟩
  rw [atI_pos h0 (by simpa using h1), S_un]
  simp [hl]
theorem simple_ok (ds : List Int) (p : Int) (hp : 0 ≤ p) (m : List Cell) : ∃ e p', 0 ≤ p' ∧ ExOk e ∧ f_law_simple [.ref 0] (Hd ds p :: m) = some (encE e, Hd ds p' :: m) := by
  obtain ⟨k, k0, k1, ek⟩ := take_ok ds p hp 6 (by omega) (by omega) m
  by_cases c0 : k < 2
  · obtain ⟨v, v0, v1, e1⟩ := take_ok ds (p + 1) (by omega) 12 (by omega) (by omega) m
    refine ⟨.pl (.num (v - 3)), p + 1 + 1, by omega, (show NoOk _ by unfold NoOk; omega), ?_⟩
    rw [show encE (.pl (.num (v - 3))) = .tup [.str "num", .int (v - 3)] from rfl]
    unfold f_law_simple b_law_simple
    simp [fnM_ap, ek, c0, e1]
  · by_cases c1 : k < 4
    · obtain ⟨v, v0, v1, e1⟩ := take_ok ds (p + 1) (by omega) 6 (by omega) (by omega) m
      obtain ⟨u, u0, u1, e2⟩ := take_ok ds (p + 1 + 1) (by omega) 5 (by omega) (by omega) m
      obtain ⟨s, hs, hn⟩ := at_names ["a", "b", "c", "i", "range", "turns"] (by decide +kernel) v0 (by show v < 6; exact v1)
      have hs' : atI [M.D.str "a", .str "b", .str "c", .str "i", .str "range", .str "turns"] v = some (.str (S s)) := hs
      refine ⟨.pl (.var s (u - 2)), p + 1 + 1 + 1, by omega, ⟨hn, by unfold NoOk; omega⟩, ?_⟩
      rw [show encE (.pl (.var s (u - 2))) = .tup [.str "var", .str (S s), .int (u - 2)] from rfl]
      unfold f_law_simple b_law_simple
      simp [fnM_ap, ek, c0, c1, e1, hs', e2]
    · obtain ⟨i, i0, i1, e1⟩ := take_ok ds (p + 1) (by omega) 6 (by omega) (by omega) m
      by_cases c2 : k = 5
      · obtain ⟨v, v0, v1, e2⟩ := take_ok ds (p + 1 + 1) (by omega) 2 (by omega) (by omega) m
        obtain ⟨u, u0, u1, e3⟩ := take_ok ds (p + 1 + 1 + 1) (by omega) 3 (by omega) (by omega) m
        obtain ⟨s, hs, hn⟩ := at_names ["i", "k"] (by decide +kernel) v0 (by show v < 2; exact v1)
        have hs' : atI [M.D.str "i", .str "k"] v = some (.str (S s)) := hs
        obtain ⟨v2, v20, v21, e4⟩ := take_ok ds (p + 1 + 1 + 1 + 1) (by omega) 2 (by omega) (by omega) m
        obtain ⟨u2, u20, u21, e5⟩ := take_ok ds (p + 1 + 1 + 1 + 1 + 1) (by omega) 3 (by omega) (by omega) m
        obtain ⟨s2, hs2, hn2⟩ := at_names ["xs", "y"] (by decide +kernel) v20 (by show v2 < 2; exact v21)
        have hs2' : atI [M.D.str "xs", .str "y"] v2 = some (.str (S s2)) := hs2
        refine ⟨.item s2 (.var s (u - 1)) (u2 - 1), p + 1 + 1 + 1 + 1 + 1 + 1, by omega, ⟨hn2, ⟨hn, by unfold NoOk; omega⟩, by unfold NoOk; omega⟩, ?_⟩
        rw [show encE (.item s2 (.var s (u - 1)) (u2 - 1)) = .tup [.str "item", .str (S s2), .tup [.str "var", .str (S s), .int (u - 1)], .int (u2 - 1)] from rfl]
        unfold f_law_simple b_law_simple
        simp [fnM_ap, ek, c2, e1, hs', e2, e3, e4, e5, hs2']
      · obtain ⟨v2, v20, v21, e4⟩ := take_ok ds (p + 1 + 1) (by omega) 2 (by omega) (by omega) m
        obtain ⟨u2, u20, u21, e5⟩ := take_ok ds (p + 1 + 1 + 1) (by omega) 3 (by omega) (by omega) m
        obtain ⟨s2, hs2, hn2⟩ := at_names ["xs", "y"] (by decide +kernel) v20 (by show v2 < 2; exact v21)
        have hs2' : atI [M.D.str "xs", .str "y"] v2 = some (.str (S s2)) := hs2
        refine ⟨.item s2 (.num (i - 1)) (u2 - 1), p + 1 + 1 + 1 + 1, by omega, ⟨hn2, (show NoOk _ by unfold NoOk; omega), by unfold NoOk; omega⟩, ?_⟩
        rw [show encE (.item s2 (.num (i - 1)) (u2 - 1)) = .tup [.str "item", .str (S s2), .tup [.str "num", .int (i - 1)], .int (u2 - 1)] from rfl]
        unfold f_law_simple b_law_simple
        simp [fnM_ap, ek, c0, c1, c2, e1, e4, e5, hs2']
theorem encCs_cons (c : Cn) (cs : CnL) : encCs (.cons c cs) = encC c :: encCs cs := rfl
theorem tree_loop (ds : List Int) (m : List Cell) (rec : FF) (d1 purse many first oth : Int) (x3 x4 : M.Slot) (d : Nat) (hm : 0 < many) (hmb : many < 1000) (ho : atI [M.D.int (purse / many), .int 1] (if purse / many < first then 1 else 0) = some (.int oth))
    (hrec : ∀ p, 0 ≤ p → ∃ c p', 0 ≤ p' ∧ COk c ∧ (lv c : Int) ≤ oth ∧ ht c ≤ d ∧ rec [.ref 0, .int (d1 - 1), .int oth] (Hd ds p :: m) = some (encC c, Hd ds p' :: m)) : ∀ (L : List M.D) (acc : List M.D) (p : Int) (x8 : M.Slot), 0 ≤ p → acc.length + L.length ≤ 1000 →
    ∃ (cs : CnL) (p' : Int) (y8 : M.Slot), 0 ≤ p' ∧ COks cs ∧ cs.len = L.length ∧ (lvs cs : Int) ≤ L.length * oth ∧ hts cs ≤ d ∧ M.forM (gNm 8) (l_law_tree_1 rec) L ⟨[.val (.ref 0), .val (.int d1), .val (.int purse), x3, x4, .val (.int many), .val (.int first), .own (.lst acc), x8], Hd ds p :: m⟩ = some (.nx, ⟨[.val (.ref 0), .val (.int d1), .val (.int purse), x3, x4, .val (.int many), .val (.int first), .own (.lst (acc ++ encCs cs)), y8], Hd ds p' :: m⟩) := by
  intro L
  induction L with
  | nil => intro acc p x8 hp _; exact ⟨.nil, p, x8, hp, trivial, rfl, by simp [lvs], by simp [hts], by rw [show encCs .nil = [] from rfl, List.append_nil]; rfl⟩
  | cons a L ih =>
    intro acc p x8 hp hl
    simp only [List.length_cons] at hl
    obtain ⟨c, p1, hp1, g1, g2, g3, e1⟩ := hrec p hp
    obtain ⟨cs, p2, y8, hp2, h1, h2, h3, h4, e2⟩ := ih (acc ++ [encC c]) p1 (.val a) hp1 (by simp; omega)
    refine ⟨.cons c cs, p2, y8, hp2, ⟨g1, h1⟩, by show cs.len + 1 = _; simp [h2], ?_, ?_, ?_⟩
    · show ((lv c + lvs cs : Nat) : Int) ≤ _
      rw [List.length_cons, show (((L.length + 1 : Nat)) : Int) * oth = L.length * oth + oth by rw [Int.natCast_add, Int.add_mul]; simp]
      omega
    · show max (ht c) (hts cs) ≤ d
      exact Nat.max_le.mpr ⟨g3, h4⟩
    · rw [encCs_cons, show acc ++ encC c :: encCs cs = acc ++ [encC c] ++ encCs cs by simp, ← e2, forM_cons]
      generalize M.forM (gNm 8) (l_law_tree_1 rec) L = K
      generalize encC c = C at e1 ⊢
      unfold l_law_tree_1
      by_cases cf : purse / many < first
      · rw [if_pos cf] at ho
        simp [hm, show many < 100000000000000000000000000000000000000000000000000 by omega, cf, ho, e1, show acc.length < 1000000 by omega]
      · rw [if_neg cf] at ho
        simp [hm, show many < 100000000000000000000000000000000000000000000000000 by omega, cf, ho, e1, show acc.length < 1000000 by omega]
theorem gMul4_3 (v : Int) : gMul4 (.int 3) (.int v) = some (.int (3 * v)) := by
  rw [gMul4_int, gMul_int, if_pos (.inl (by omega))]
theorem tree_cmp (ds : List Int) (p : Int) (hp : 0 ≤ p) (m : List Cell) (rec : FF) (d purse : Int) (k : Int) (hk : d = 0 ∨ k < 2 ∨ (2 < k ∧ purse < 2)) (ek : f_law_take [.ref 0, .int 7] (Hd ds p :: m) = some (.int k, Hd ds (p + 1) :: m)) : ∃ c p', 0 ≤ p' ∧ COk c ∧ lv c = 1 ∧ ht c = 0 ∧ fnM 9 (b_law_tree rec) [.ref 0, .int d, .int purse] (Hd ds p :: m) = some (encC c, Hd ds p' :: m) := by
  obtain ⟨v, v0, v1, e1⟩ := take_ok ds (p + 1) (by omega) 6 (by omega) (by omega) m
  have hv : ∃ g, atI [M.D.str "<", .str "<=", .str ">", .str ">=", .str "==", .str "!="] v = some (.str (S g)) ∧ g ∈ SGS := by
    have hl : v.toNat < SG.length := by show v.toNat < 6; omega
    refine ⟨un SG[v.toNat], ?_, List.mem_map_of_mem (List.getElem_mem hl)⟩
    show atI (SG.map M.D.str) v = _
    rw [atI_pos v0 (by show v < 6; exact v1), S_un]
    simp [hl]
  obtain ⟨g, hg, hg2⟩ := hv
  obtain ⟨l, p1, hp1, hl, e2⟩ := simple_ok ds (p + 1 + 1) (by omega) m
  obtain ⟨r, p2, hp2, hr, e3⟩ := simple_ok ds p1 hp1 m
  refine ⟨.cmp g l r, p2, hp2, ⟨hg2, hl, hr⟩, rfl, rfl, ?_⟩
  rw [show encC (.cmp g l r) = .tup [.str "cmp", .str (S g), encE l, encE r] from rfl]
  generalize encE l = E1 at *
  generalize encE r = E2 at *
  unfold b_law_tree
  by_cases h1 : d = 0
  · simp [fnM_ap, ek, h1, e1, hg, e2, e3]
  · by_cases h2 : k < 2
    · simp [fnM_ap, ek, h1, h2, e1, hg, e2, e3]
    · have h3 := (hk.resolve_left h1).resolve_left h2
      simp [fnM_ap, ek, h1, h2, h3.1, h3.2, e1, hg, e2, e3]
theorem tree_ok (ds : List Int) (m : List Cell) : ∀ (d k : Nat) (purse : Int) (p : Int), d < k → 1 ≤ purse → purse ≤ 8 → 0 ≤ p → ∃ c p', 0 ≤ p' ∧ COk c ∧ (lv c : Int) ≤ purse ∧ ht c ≤ d ∧ f_law_tree k [.ref 0, .int (d : Int), .int purse] (Hd ds p :: m) = some (encC c, Hd ds p' :: m) := by
  intro d
  induction d with
  | zero =>
    intro k purse p hk h1 h8 hp
    obtain ⟨k, rfl⟩ : ∃ j, k = j + 1 := ⟨k - 1, by omega⟩
    obtain ⟨kd, k0, k1, ek⟩ := take_ok ds p hp 7 (by omega) (by omega) m
    obtain ⟨c, p', a1, a2, a3, a4, a5⟩ := tree_cmp ds p hp m (f_law_tree k) 0 purse kd (.inl rfl) ek
    exact ⟨c, p', a1, a2, by omega, by omega, a5⟩
  | succ d ih =>
    intro k purse p hk h1 h8 hp
    obtain ⟨k, rfl⟩ : ∃ j, k = j + 1 := ⟨k - 1, by omega⟩
    obtain ⟨kd, k0, k1, ek⟩ := take_ok ds p hp 7 (by omega) (by omega) m
    show ∃ c p', 0 ≤ p' ∧ COk c ∧ (lv c : Int) ≤ purse ∧ ht c ≤ d + 1 ∧ fnM 9 (b_law_tree (f_law_tree k)) _ _ = _
    have ih' := fun purse p => ih k purse p (by omega)
    generalize f_law_tree k = rec at ih' ⊢
    clear ih
    have hd1 : ((d + 1 : Nat) : Int) - 1 = d := by omega
    have hd0 : ¬ ((d + 1 : Nat) : Int) = 0 := by omega
    generalize ((d + 1 : Nat) : Int) = dp at hd1 hd0 ⊢
    by_cases c0 : kd < 2 ∨ (2 < kd ∧ purse < 2)
    · obtain ⟨c, p', a1, a2, a3, a4, a5⟩ := tree_cmp ds p hp m rec dp purse kd (.inr c0) ek
      exact ⟨c, p', a1, a2, by omega, by omega, a5⟩
    · have c1 : ¬ kd < 2 := fun z => c0 (.inl z)
      by_cases c2 : kd = 2
      · obtain ⟨c, p', a1, a2, a3, a4, a5⟩ := ih' purse (p + 1) h1 h8 (by omega)
        refine ⟨.neg c, p', a1, a2, a3, by show ht c + 1 ≤ d + 1; omega, ?_⟩
        rw [show encC (.neg c) = .tup [.str (S NOT), encC c] from rfl]
        generalize encC c = C at *
        unfold b_law_tree
        simp [fnM_ap, ek, hd0, c2, hd1, a5, lit_not]
      · have c3 : ¬ purse < 2 := fun z => c0 (.inr ⟨by omega, z⟩)
        obtain ⟨v, v0, v1, e1⟩ := take_ok ds (p + 1) (by omega) (3 * purse - 3) (by omega) (by omega) m
        obtain ⟨t, t0, t1, e2⟩ := take_ok ds (p + 1 + 1) (by omega) 2 (by omega) (by omega) m
        obtain ⟨many, hmd⟩ : ∃ many : Int, many = if t = 0 then 2 else 2 + v / 3 := ⟨_, rfl⟩
        have hm : 2 ≤ many ∧ many ≤ purse := by
          rw [hmd]; split <;> omega
        obtain ⟨u, u0, u1, e3⟩ := take_ok ds (p + 1 + 1 + 1) (by omega) 2 (by omega) (by omega) m
        have hdiv : 1 ≤ purse / many ∧ purse / many * many ≤ purse ∧ purse / many ≤ 8 := by
          have q1 : purse / many * many ≤ purse := Int.ediv_mul_le purse (by omega)
          have q2 : 1 ≤ purse / many := (Int.le_ediv_iff_mul_le (by omega)).mpr (by omega)
          refine ⟨q2, q1, ?_⟩
          exact Int.le_trans (Int.ediv_le_self many (by omega)) h8
        obtain ⟨first, hf⟩ : ∃ first : Int, first = if u = 0 then purse / many else purse - many + 1 := ⟨_, rfl⟩
        have hfa : atI [M.D.int (purse / many), .int (purse - many + 1)] u = some (.int first) := by
          have : u = 0 ∨ u = 1 := by omega
          rcases this with rfl | rfl
          · rw [hf]; simp
          · rw [hf]; simp
        have hf1 : 1 ≤ first ∧ first ≤ 8 := by rw [hf]; split <;> omega
        obtain ⟨oth, hoth⟩ : ∃ oth : Int, oth = if purse / many < first then 1 else purse / many := ⟨_, rfl⟩
        have hoa : atI [M.D.int (purse / many), .int 1] (if purse / many < first then 1 else 0) = some (.int oth) := by
          rw [hoth]; split <;> simp
        have hsum : first + (many - 1) * oth ≤ purse := by
          rw [hoth]
          split
          · rename_i q
            rw [hf] at q ⊢
            split at q
            · omega
            · rename_i z; rw [if_neg z]; omega
          · rename_i q
            have e : (many - 1) * (purse / many) = purse / many * many - purse / many := by rw [Int.sub_mul, Int.mul_comm]; simp
            rw [e]
            omega
        have ho1 : 1 ≤ oth ∧ oth ≤ 8 := by rw [hoth]; split <;> omega
        obtain ⟨c, p1, a1, a2, a3, a4, a5⟩ := ih' first (p + 1 + 1 + 1 + 1) hf1.1 hf1.2 (by omega)
        obtain ⟨n, hn⟩ : ∃ n : Nat, many - 1 = (n : Int) := ⟨(many - 1).toNat, by omega⟩
        obtain ⟨cs, p2, y8, b1, b2, b3, b4, b5, e4⟩ := tree_loop ds m rec dp purse many first oth (.val (.int kd)) .emp d (by omega) (by omega) hoa (fun p hp => by rw [hd1]; exact ih' oth p ho1.1 ho1.2 hp) ((List.range n).map fun j : Nat => M.D.int (j : Int)) [encC c] p1 .emp a1 (by simp; omega)
        simp only [List.length_map, List.length_range] at b3 b4
        obtain ⟨w, w0, w1, e5⟩ := take_ok ds p2 b1 2 (by omega) (by omega) m
        have hb : ∃ b, atI [M.D.str "and", .str "or"] w = some (.str (S (kwB b))) := by
          have : w = 0 ∨ w = 1 := by omega
          rcases this with rfl | rfl
          · exact ⟨true, by simp [kwB, lit_and]⟩
          · exact ⟨false, by simp [kwB, lit_or]⟩
        obtain ⟨b, hb⟩ := hb
        refine ⟨.many b (.cons c cs), p2 + 1, by omega, ⟨by show 2 ≤ cs.len + 1; omega, a2, b2⟩, ?_, ?_, ?_⟩
        · show ((lv c + lvs cs : Nat) : Int) ≤ purse
          rw [← hn] at b4
          omega
        · show max (ht c) (hts cs) + 1 ≤ d + 1
          have := Nat.max_le.mpr ⟨a4, b5⟩
          omega
        · rw [show encC (.many b (.cons c cs)) = .tup [.str (S (kwB b)), .tup (encC c :: encCs cs)] from rfl]
          have r1 : ∀ mm, iRg1 (eOp gSub (eVar 5) (eC (.int 1))) ⟨[.val (.ref 0), .val (.int dp), .val (.int purse), .val (.int kd), .emp, .val (.int many), .val (.int first), .own (.lst [encC c]), .emp], mm⟩ = some ((List.range n).map (fun j : Nat => M.D.int (j : Int)), ⟨[.val (.ref 0), .val (.int dp), .val (.int purse), .val (.int kd), .emp, .val (.int many), .val (.int first), .own (.lst [encC c]), .emp], mm⟩) := fun mm => iRg1_step (by simp [hn]) (by omega)
          generalize (List.range n).map (fun j : Nat => M.D.int (j : Int)) = L at e4 r1
          rw [List.singleton_append] at e4
          generalize encC c = C at *
          generalize encCs cs = Cs at *
          have mm3 := gMul4_3 purse
          have h5 : ∀ R : List M.Slot, t_law_tree_5 rec ⟨[.val (.ref 0), .val (.int dp), .val (.int purse), .val (.int kd), .emp, .emp, .emp, .emp, .emp], Hd ds (p + 1) :: m⟩ = t_law_tree_1 rec ⟨[.val (.ref 0), .val (.int dp), .val (.int purse), .val (.int kd), .emp, .val (.int many), .val (.int first), .own (.lst [C]), .emp], Hd ds p1 :: m⟩ := fun _ => by
            rw [t_law_tree_5_ap]
            simp only [sSeq_ap, t_law_tree_4_ap, t_law_tree_3_ap, t_law_tree_2_ap]
            generalize t_law_tree_1 rec = tl
            revert tl
            refine opq ?_
            intro tl
            by_cases ht0 : t = 0
            · rw [if_pos ht0] at hmd
              subst hmd
              simp [-gMul4_int, mm3, e1, e2, ht0, hfa, hd1, a5, show (0 : Int) < 2 by omega, e3]
            · rw [if_neg ht0] at hmd
              rw [hmd] at *
              simp [-gMul4_int, mm3, e1, e2, ht0, hfa, hd1, a5, show (0 : Int) < 2 + v / 3 by omega, show 2 + v / 3 < 100000000000000000000000000000000000000000000000000 by omega, e3]
          have h1' : t_law_tree_1 rec ⟨[.val (.ref 0), .val (.int dp), .val (.int purse), .val (.int kd), .emp, .val (.int many), .val (.int first), .own (.lst [C]), .emp], Hd ds p1 :: m⟩ = some (.rt (.tup [.str (S (kwB b)), .tup (C :: Cs)]), ⟨[.val (.ref 0), .val (.int dp), .val (.int purse), .val (.int kd), .emp, .val (.int many), .val (.int first), .own (.lst (C :: Cs)), y8], Hd ds (p2 + 1) :: m⟩) := by
            rw [t_law_tree_1_ap]
            generalize l_law_tree_1 rec = lp at e4
            simp [-iRg1_ap, r1, e4, e5, hb]
          rw [fnM_ap]
          unfold b_law_tree
          simp only [sSeq_ap, t_law_tree_7_ap, t_law_tree_6_ap]
          have h5' := h5 []
          rw [h1'] at h5'
          generalize t_law_tree_5 rec = tl at h5'
          simp [ek, hd0, c1, c2, c3, show 2 < kd by omega, h5']
end Lk03



namespace Lk03
open PySem L2 M
/-! needs -/
theorem so_cmp : PyData.strOk ("cmp" : Str) = true := by decide +kernel
theorem so_S {w : List Nat} (h : Ok w) : PyData.strOk (S w) = true := h.so
theorem encC_cmp (g : List Nat) (l r : Ex) : encC (.cmp g l r) = .tup [.str "cmp", .str (S g), encE l, encE r] := rfl
theorem encC_neg (c : Cn) : encC (.neg c) = .tup [.str (S NOT), encC c] := rfl
theorem encC_many (b : Bool) (cs : CnL) : encC (.many b cs) = .tup [.str (S (kwB b)), .tup (encCs cs)] := rfl
theorem lit_cmp : ("cmp" : Str) = S [99, 109, 112] := by decide +kernel
theorem in_ao {u : List Nat} (hu : Ok u) : gIn3 false (.str (S u)) (.lst [.str (S AND), .str (S ORR)]) = some (.bl (decide (u = AND ∨ u = ORR))) := by
  have e := inStrs_l hu (zs := [AND, ORR]) (fun z hz => by
    simp only [List.mem_cons, List.not_mem_nil, or_false] at hz
    rcases hz with rfl | rfl
    · exact ok_AND
    · exact ok_ORR)
  have h2 : decide (u ∈ [AND, ORR]) = decide (u = AND ∨ u = ORR) := by simp
  rw [h2] at e; exact e
theorem ok_CMP : Ok [99, 109, 112] := ok_small (by decide)
def headW : Cn → List Nat
  | .cmp _ _ _ => [99, 109, 112]
  | .neg _ => NOT
  | .many b _ => kwB b
theorem ok_kw (b : Bool) : Ok (kwB b) := by cases b; exact ok_ORR; exact ok_AND
theorem headW_ok (c : Cn) : Ok (headW c) := by
  cases c with
  | cmp => exact ok_CMP
  | neg => exact ok_NOT
  | many b => exact ok_kw b
theorem encC_head (c : Cn) : ∃ ds, encC c = .tup (.str (S (headW c)) :: ds) := by
  cases c with
  | cmp g l r => exact ⟨_, by rw [encC_cmp, lit_cmp]; rfl⟩
  | neg c => exact ⟨_, rfl⟩
  | many b cs => exact ⟨_, rfl⟩
theorem headW_many (c : Cn) : decide (headW c = AND ∨ headW c = ORR) = isMany c := by
  cases c with
  | cmp g l r => show decide (([99, 109, 112] : List Nat) = AND ∨ ([99, 109, 112] : List Nat) = ORR) = false; decide
  | neg c => show decide (NOT = AND ∨ NOT = ORR) = false; decide
  | many b cs =>
    show decide (kwB b = AND ∨ kwB b = ORR) = true
    revert b; decide
theorem headW_or (c : Cn) : decide (headW c = ORR) = isOr c := by
  cases c with
  | cmp g l r => show decide (([99, 109, 112] : List Nat) = ORR) = false; decide
  | neg c => show decide (NOT = ORR) = false; decide
  | many b cs => cases b with
    | false => show decide (ORR = ORR) = true; decide
    | true => show decide (AND = ORR) = false; decide
theorem needs_ok (w : List Nat) (hw : w = NOT ∨ w = AND ∨ w = ORR) (c : Cn) (m : List Cell) : f_law_needs [.str (S w), encC c] m = some (.bl (need (decide (w ≠ ORR)) c), m) := by
  obtain ⟨es, he⟩ := encC_head c
  rw [he]
  have g1 := in_ao (headW_ok c)
  have g2 := eqS (headW_ok c) ok_ORR
  rw [headW_many] at g1
  rw [headW_or] at g2
  generalize S (headW c) = H at *
  have hww : Ok w := by rcases hw with rfl | rfl | rfl; exact ok_NOT; exact ok_AND; exact ok_ORR
  have g3 := eqS hww ok_ORR
  unfold f_law_needs b_law_needs
  by_cases h : w = ORR
  · rw [decide_eq_true h] at g3
    rw [show decide (w ≠ ORR) = false by simp [h]]
    show _ = some (M.D.bl (isOr c), m)
    generalize S w = U at *
    simp [fnM_ap, lit_or, g3, g2]
  · rw [decide_eq_false h] at g3
    rw [show decide (w ≠ ORR) = true by simp [h]]
    show _ = some (M.D.bl (isMany c), m)
    generalize S w = U at *
    simp [fnM_ap, lit_or, lit_and, g3, g1]
theorem needs_kw (b : Bool) (c : Cn) (m : List Cell) : f_law_needs [.str (S (kwB b)), encC c] m = some (.bl (need b c), m) := by
  have := needs_ok (kwB b) (by cases b; exact .inr (.inr rfl); exact .inr (.inl rfl)) c m
  rw [show decide (kwB b ≠ ORR) = b by cases b <;> decide] at this
  exact this
theorem needs_not (c : Cn) (m : List Cell) : f_law_needs [.str (S NOT), encC c] m = some (.bl (need true c), m) := by
  have := needs_ok NOT (.inl rfl) c m
  rw [show decide (NOT ≠ ORR) = true by decide] at this
  exact this
theorem many_ok (ds : List Int) (p : Int) (hp : 0 ≤ p) (m : List Cell) : ∃ v p', 0 ≤ p' ∧ 0 ≤ v ∧ v ≤ 9 ∧ f_law_many [.ref 0] (Hd ds p :: m) = some (.int v, Hd ds p' :: m) := by
  obtain ⟨k, k0, k1, ek⟩ := take_ok ds p hp 40 (by omega) (by omega) m
  unfold f_law_many b_law_many
  by_cases c1 : k = 39
  · exact ⟨9, p + 1, by omega, by omega, by omega, by simp [fnM_ap, ek, c1]⟩
  · by_cases c2 : k = 38
    · exact ⟨8, p + 1, by omega, by omega, by omega, by simp [fnM_ap, ek, c2]⟩
    · obtain ⟨x, hx, hx2⟩ := atI_I (ns := [0, 1, 2]) (i := if k - 35 > 0 then k - 35 else 0) (by split <;> omega) (by simp; split <;> omega)
      have hx' : atI [M.D.int 0, .int 1, .int 2] (if k - 35 > 0 then k - 35 else 0) = some (.int x) := hx
      have hm := List.mem_of_getElem? hx2
      simp only [List.mem_cons, List.not_mem_nil, or_false] at hm
      have hg : gMax2 [.int 0, .int (k - 35)] = some (.int (if k - 35 > 0 then k - 35 else 0)) := rfl
      generalize (if k - 35 > 0 then k - 35 else 0) = z at hx' hg
      exact ⟨x, p + 1, by omega, by omega, by omega, by simp [-gMax2_int, fnM_ap, ek, c1, c2, hg, hx']⟩
/-! pairs around words -/
theorem gMul4_one (w : List Nat) (n : Nat) (h : n ≤ 1000) : gMul4 (.lst [.str (S w)]) (.int (n : Int)) = some (.lst ((rep n w).map encS)) := by
  rw [gMul4_lst, if_pos (by simp; omega)]
  congr 2
  unfold rep encS
  simp
theorem addL {a b : List (List Nat)} (h : a.length + b.length ≤ 1000000) : gAdd (.lst (a.map encS)) (.lst (b.map encS)) = some (.lst ((a ++ b).map encS)) := by
  rw [gAdd_lst, if_pos (by simpa using h), List.map_append]
theorem rep_len (n : Nat) (w : List Nat) : (rep n w).length = n := by unfold rep; simp
theorem g_kw {w : List Nat} (h : w = NOT ∨ w = AND ∨ w = ORR ∨ w = [40] ∨ w = [41]) : GWd w := by
  rcases h with rfl | rfl | rfl | rfl | rfl <;> exact tkB_ok (by decide)
theorem g_sg : ∀ g ∈ SGS, GWd g := by
  have h : (SGS.all fun g => tkB g) = true := by decide +kernel
  rw [List.all_eq_true] at h
  exact fun g hg => tkB_ok (h g hg)
theorem g_pairs {p : Nat} {ws : List (List Nat)} (h : ∀ w ∈ ws, GWd w) : ∀ w ∈ pairsW p ws, GWd w := by
  intro w hw
  unfold pairsW rep at hw
  rcases List.mem_append.mp hw with hw | hw
  · rcases List.mem_append.mp hw with hw | hw
    · rw [List.eq_of_mem_replicate hw]; exact g_kw (.inr (.inr (.inr (.inl rfl))))
    · exact h w hw
  · rw [List.eq_of_mem_replicate hw]; exact g_kw (.inr (.inr (.inr (.inr rfl))))
theorem pairs_len (p : Nat) (ws : List (List Nat)) : (pairsW p ws).length = 2 * p + ws.length := by
  unfold pairsW; simp [rep_len]; omega
/-! plain words -/
def nd (b : Bool) (c : Cn) : Nat := if need b c = true then 1 else 0
mutual
def wdC : Cn → List (List Nat)
  | .cmp g l r => wd l ++ [g] ++ wd r
  | .neg c => [NOT] ++ pairsW (nd true c) (wdC c)
  | .many b cs => wdL b cs
def wdL (b : Bool) : CnL → List (List Nat)
  | .nil => []
  | .cons c .nil => pairsW (nd b c) (wdC c)
  | .cons c cs => pairsW (nd b c) (wdC c) ++ ([kwB b] ++ wdL b cs)
end
theorem wdL_one (b : Bool) (c : Cn) : wdL b (.cons c .nil) = pairsW (nd b c) (wdC c) := by unfold wdL; rfl
theorem wdL_cons (b : Bool) (c c' : Cn) (cs : CnL) : wdL b (.cons c (.cons c' cs)) = pairsW (nd b c) (wdC c) ++ ([kwB b] ++ wdL b (.cons c' cs)) := by
  conv => lhs; unfold wdL
/-- what dressing gives -/
structure Dd (c : Cn) (P : Nat) (ws : List (List Nat)) (dep : Nat) : Prop where
  dr : Dr c P ws dep
  ln : ws.length ≤ 60 * (lv c * (ht c + 1))
  gw : ∀ w ∈ ws, GWd w
theorem lv_pos : ∀ c : Cn, COk c → 1 ≤ lv c
  | .cmp _ _ _, _ => Nat.le_refl 1
  | .neg c, h => lv_pos c h
  | .many _ (.cons c cs), h => by
    have := lv_pos c h.2.1
    show 1 ≤ lv c + lvs cs
    omega
  | .many _ .nil, h => absurd h.1 (by show ¬ 2 ≤ 0; omega)
end Lk03



namespace Lk03
open PySem L2 M
/-! dressing a condition -/
theorem wd_len (e : Ex) : (wd e).length ≤ 8 := by
  cases e with
  | pl p => have := wdP_len p; show (wdP p).length ≤ 8; omega
  | item s p c =>
    have := wdP_len p
    have := plusW_len c
    show ([s, [91]] ++ wdP p ++ [[93]] ++ plusW c).length ≤ 8
    simp; omega
theorem gwd_nl {n : Nat} (h : n < 10000000000) : GWd (nl n) := ⟨tk_nl n, ok_DD (nl_DD n), by have := nl_len h; omega⟩
theorem gwd_nm {s : List Nat} (h : NmOk s) : GWd s := ⟨tk_LL h.spec.2.2.2 h.spec.2.1, ok_LL h.spec.2.2.2, by have := h.spec.2.2.1; omega⟩
theorem gwd_plus {c : Int} (h : NoOk c) : ∀ w ∈ plusW c, GWd w := by
  unfold NoOk at h
  intro w hw
  unfold plusW at hw
  split at hw
  · simp at hw
  · split at hw
    · simp only [List.mem_cons, List.not_mem_nil, or_false] at hw
      rcases hw with rfl | rfl
      · exact tkB_ok (by decide +kernel)
      · exact gwd_nl (by omega)
    · simp only [List.mem_cons, List.not_mem_nil, or_false] at hw
      rcases hw with rfl | rfl
      · exact tkB_ok (by decide +kernel)
      · exact gwd_nl (by omega)
theorem gwd_P {p : Pe} (h : PeOk p) : ∀ w ∈ wdP p, GWd w := by
  cases p with
  | num n =>
    have h' : NoOk n := h
    unfold NoOk at h'
    intro w hw
    have hw' : w ∈ (if n < 0 then [[45], nl (-n).toNat] else [nl n.toNat] : List (List Nat)) := hw
    split at hw'
    · simp only [List.mem_cons, List.not_mem_nil, or_false] at hw'
      rcases hw' with rfl | rfl
      · exact tkB_ok (by decide +kernel)
      · exact gwd_nl (by omega)
    · simp only [List.mem_cons, List.not_mem_nil, or_false] at hw'
      rcases hw' with rfl
      exact gwd_nl (by omega)
  | var s c =>
    intro w hw
    rcases List.mem_cons.mp hw with rfl | hw
    · exact gwd_nm h.1
    · exact gwd_plus h.2 w hw
theorem gwd_wd {e : Ex} (h : ExOk e) : ∀ w ∈ wd e, GWd w := by
  cases e with
  | pl p => exact gwd_P h
  | item s p c =>
    intro w hw
    have hw' : w ∈ [s, [91]] ++ wdP p ++ [[93]] ++ plusW c := hw
    simp only [List.mem_append, List.mem_cons, List.not_mem_nil, or_false] at hw'
    rcases hw' with ((hw' | hw') | hw') | hw'
    · rcases hw' with rfl | rfl
      · exact gwd_nm h.1
      · exact tkB_ok (by decide +kernel)
    · exact gwd_P h.2.1 w hw'
    · rw [hw']; exact tkB_ok (by decide +kernel)
    · exact gwd_plus h.2.2 w hw'
theorem words_W {e : Ex} (h : ExOk e) (n : Nat) (hn : 2 ≤ n) (m : List Cell) : f_law_words_of n [encE e] m = some (.lst ((wd e).map encS), m) := by
  obtain ⟨k, rfl⟩ : ∃ k, n = k + 2 := ⟨n - 2, by omega⟩
  exact words_E h k m
def s0 (C : M.D) (p0 : Nat) (more : Bool) (x4 x5 x6 x7 : M.Slot) (M0 : List Cell) : Ms := ⟨[.val (.ref 0), .val C, .val (.int (p0 : Int)), .val (.bl more), x4, x5, x6, x7], M0⟩
theorem dz_first (rec : FF) (C : M.D) (p0 : Nat) (more : Bool) (ds : List Int) (p : Int) (hp : 0 ≤ p) (m : List Cell) : ∃ (P : Nat) (p' : Int), 0 ≤ p' ∧ p0 ≤ P ∧ P ≤ p0 + 9 ∧ (more = false → P = p0) ∧ b_law_dressed rec (s0 C p0 more .emp .emp .emp .emp (Hd ds p :: m)) = t_law_dressed_7 rec (s0 C P more .emp .emp .emp .emp (Hd ds p' :: m)) := by
  unfold b_law_dressed s0
  generalize t_law_dressed_7 rec = tl
  cases more with
  | false =>
    refine ⟨p0, p, hp, Nat.le_refl _, by omega, fun _ => rfl, ?_⟩
    revert tl; refine opq ?_; intro tl
    simp
  | true =>
    obtain ⟨v, p', hp', v0, v9, e⟩ := many_ok ds p hp m
    refine ⟨p0 + v.toNat, p', hp', by omega, by omega, (fun z => by cases z), ?_⟩
    rw [show ((p0 + v.toNat : Nat) : Int) = (p0 : Int) + v by omega]
    revert tl; refine opq ?_; intro tl
    simp [e]
/-- what a def's statements give -/
def Gv (o : Option (Fl × Ms)) (v : M.D) (m : List Cell) : Prop := ∃ R, o = some (.rt v, ⟨R, m⟩)
theorem pairs_map (P : Nat) (ws : List (List Nat)) : (pairsW P ws).map encS = (rep P [40]).map encS ++ ws.map encS ++ (rep P [41]).map encS := by unfold pairsW; simp
theorem dz_cmp (rec : FF) (g : List Nat) (l r : Ex) (hg : g ∈ SGS) (hl : ExOk l) (hr : ExOk r) (P : Nat) (hP : P ≤ 20) (more : Bool) (m : List Cell) : Gv (t_law_dressed_7 rec (s0 (encC (.cmp g l r)) P more .emp .emp .emp .emp m)) (.lst [.lst ((pairsW P (wd l ++ [g] ++ wd r)).map encS), .int P]) m := by
  have e1 := words_W hl 48 (by omega) m
  have e2 := words_W hr 48 (by omega) m
  have l1 := wd_len l
  have l2 := wd_len r
  have a1 : gAdd (.lst ((wd l).map encS)) (.lst [.str (S g)]) = some (.lst ((wd l ++ [g]).map encS)) := addL (b := [g]) (by simp; omega)
  have m1 := gMul4_one [40] P (by omega)
  have m2 := gMul4_one [41] P (by omega)
  have a2 := addL (a := rep P [40]) (b := wd l ++ [g] ++ wd r) (by simp [rep_len]; omega)
  have a3 := addL (a := rep P [40] ++ (wd l ++ [g] ++ wd r)) (b := rep P [41]) (by simp [rep_len]; omega)
  have c1 : (wd l ++ [g]).map encS ++ (wd r).map encS = (wd l ++ [g] ++ wd r).map encS := by simp
  have n1 : ((wd l ++ [g]).map encS).length + ((wd r).map encS).length ≤ 1000000 := by simp; omega
  rw [encC_cmp]
  rw [show pairsW P (wd l ++ [g] ++ wd r) = rep P [40] ++ (wd l ++ [g] ++ wd r) ++ rep P [41] from rfl]
  unfold t_law_dressed_7 s0 Gv
  generalize f_law_words_of 48 = fw at *
  generalize (rep P [40] ++ (wd l ++ [g] ++ wd r) ++ rep P [41]).map encS = Z at *
  generalize (rep P [40] ++ (wd l ++ [g] ++ wd r)).map encS = Y at *
  generalize (wd l ++ [g] ++ wd r).map encS = X at *
  generalize (wd l ++ [g]).map encS = W at *
  generalize (wd l).map encS = W1 at *
  generalize (wd r).map encS = W2 at *
  generalize (rep P [40]).map encS = R1 at *
  generalize (rep P [41]).map encS = R2 at *
  generalize encE l = E1 at *
  generalize encE r = E2 at *
  generalize t_law_dressed_6 rec = tl
  refine ⟨[.val (.ref 0), .val (.tup [.str "cmp", .str (S g), E1, E2]), .val (.int P), .val (.bl more), .own (.lst X), .emp, .emp, .emp], ?_⟩
  revert tl; refine opq ?_; intro tl
  simp [-gAdd_lst, so_cmp, e1, a1, e2, n1, c1, lit_o, lit_c, m1, m2, a2, a3]
theorem lit_cmp_ne (w : List Nat) (h : w ≠ [99, 109, 112]) (hw : Ok w) : eqD (.str (S w)) (.str "cmp") = some false := by
  rw [lit_cmp, eqS hw ok_CMP]; simp [h]
theorem dz_neg (rec : FF) (c : Cn) (P : Nat) (hP : P ≤ 20) (more : Bool) (m m' : List Cell) (ws : List (List Nat)) (hw : ws.length ≤ 900000) (dep : Nat) (hr : rec [.ref 0, encC c, .int ((nd true c : Nat) : Int), .bl more] m = some (.lst [.lst (ws.map encS), .int dep], m')) : Gv (t_law_dressed_7 rec (s0 (encC (.neg c)) P more .emp .emp .emp .emp m)) (.lst [.lst ((pairsW P ([NOT] ++ ws)).map encS), .int ((P + 1 + dep : Nat) : Int)]) m' := by
  have m1 := gMul4_one [40] P (by omega)
  have m2 := gMul4_one [41] P (by omega)
  have a1 : gAdd (.lst ((rep P [40]).map encS)) (.lst [.str (S NOT)]) = some (.lst ((rep P [40] ++ [NOT]).map encS)) := addL (b := [NOT]) (by simp [rep_len]; omega)
  have a2 := addL (a := rep P [40] ++ [NOT]) (b := ws) (by simp [rep_len]; omega)
  have a3 := addL (a := rep P [40] ++ [NOT] ++ ws) (b := rep P [41]) (by simp [rep_len]; omega)
  have q1 := lit_cmp_ne NOT (by decide) ok_NOT
  have q2 := eqS ok_NOT ok_NOT
  rw [decide_eq_true rfl] at q2
  have q3 : gInt3 (.bl (need true c)) = some (.int ((nd true c : Nat) : Int)) := by
    rw [gInt3_bl]; unfold nd; cases need true c <;> rfl
  have q4 := needs_not c
  rw [show pairsW P ([NOT] ++ ws) = rep P [40] ++ [NOT] ++ ws ++ rep P [41] by unfold pairsW; simp]
  rw [show ((P + 1 + dep : Nat) : Int) = (P : Int) + 1 + dep by omega]
  rw [encC_neg]
  generalize (rep P [40] ++ [NOT] ++ ws ++ rep P [41]).map encS = Z at *
  generalize (rep P [40] ++ [NOT] ++ ws).map encS = Y at *
  generalize (rep P [40] ++ [NOT]).map encS = X at *
  generalize (rep P [40]).map encS = R1 at *
  generalize (rep P [41]).map encS = R2 at *
  generalize ws.map encS = W at *
  generalize ((nd true c : Nat) : Int) = N at *
  generalize need true c = B at *
  generalize encC c = C at *
  unfold t_law_dressed_7 t_law_dressed_6 s0 Gv
  generalize t_law_dressed_5 rec = tl
  refine ⟨[.val (.ref 0), .val (.tup [.str (S NOT), C]), .val (.int P), .val (.bl more), .emp, .val (.lst [.lst W, .int dep]), .emp, .emp], ?_⟩
  revert tl; refine opq ?_; intro tl
  simp [-gAdd_lst, q1, lit_not, q2, q4, q3, hr, lit_o, lit_c, m1, m2, a1, a2, a3]
theorem kw_cmp (b : Bool) : eqD (.str (S (kwB b))) (.str "cmp") = some false := lit_cmp_ne _ (by cases b <;> decide) (ok_kw b)
theorem kw_not (b : Bool) : eqD (.str (S (kwB b))) (.str "not") = some false := by
  rw [lit_not, eqS (ok_kw b) ok_NOT]; cases b <;> rfl
/-- what stands before the next part -/
def fro (acc : List (List Nat)) (b : Bool) : List (List Nat) := if acc = [] then [] else acc ++ [kwB b]
theorem dz_step (rec : FF) (b : Bool) (c : Cn) (T : M.D) (P : Nat) (more : Bool) (m m' : List Cell) (acc ws : List (List Nat)) (hl : acc.length + ws.length ≤ 900000) (dp dep : Nat) (x5 : M.Slot) (hr : rec [.ref 0, encC c, .int ((nd b c : Nat) : Int), .bl more] m = some (.lst [.lst (ws.map encS), .int dep], m')) : l_law_dressed_1 rec (s0 (.tup [.str (S (kwB b)), T]) P more (.own (.lst (acc.map encS))) x5 (.val (.int (dp : Nat))) (.val (encC c)) m) = some (.nx, s0 (.tup [.str (S (kwB b)), T]) P more (.own (.lst ((fro acc b ++ ws).map encS))) (.val (.lst [.lst (ws.map encS), .int dep])) (.val (.int ((max dp dep : Nat) : Int))) (.val (encC c)) m') := by
  have q3 : gInt3 (.bl (need b c)) = some (.int ((nd b c : Nat) : Int)) := by
    rw [gInt3_bl]; unfold nd; cases need b c <;> rfl
  have q4 := needs_kw b c
  have hmax : ((max dp dep : Nat) : Int) = if (dep : Int) > dp then (dep : Int) else dp := by
    split <;> omega
  have hx : ((fro acc b ++ ws).map encS) = if 0 < (acc.map encS).length then acc.map encS ++ [M.D.str (S (kwB b))] ++ ws.map encS else ws.map encS := by
    unfold fro
    cases acc with
    | nil => simp
    | cons a acc => simp [encS]
  have he : acc.map encS = [] ∨ 0 < (acc.map encS).length := by
    cases acc with
    | nil => exact .inl rfl
    | cons a acc => exact .inr (by simp)
  have hl2 : (acc.map encS).length + (ws.map encS).length ≤ 900000 := by simpa using hl
  rw [hx, hmax]
  clear hx hmax hl
  generalize acc.map encS = A at *
  generalize ws.map encS = W at *
  generalize ((nd b c : Nat) : Int) = N at *
  generalize need b c = B at *
  generalize encC c = C at *
  generalize S (kwB b) = sk at *
  generalize (dp : Int) = dp at *
  generalize (dep : Int) = dep at *
  unfold l_law_dressed_1 t_law_dressed_2 t_law_dressed_1 s0
  rcases he with rfl | he
  · have hw2 : W.length ≤ 1000000 := by simp at hl2; omega
    by_cases h2 : dep > dp
    · simp [q4, q3, hr, h2, hw2]
    · simp [q4, q3, hr, h2, hw2]
  · have h0 : (0 : Int) < A.length := by omega
    by_cases h2 : dep > dp
    · simp [q4, q3, hr, h2, he, h0, show A.length < 1000000 by omega, show A.length + 1 + W.length ≤ 1000000 by omega]
    · simp [q4, q3, hr, h2, he, h0, show A.length < 1000000 by omega, show A.length + 1 + W.length ≤ 1000000 by omega]
theorem dz_many (rec : FF) (b : Bool) (cs : CnL) (P : Nat) (hP : P ≤ 20) (more : Bool) (m m' : List Cell) (ws : List (List Nat)) (hw : ws.length ≤ 900000) (dep : Nat) (y5 y7 : M.Slot) (hloop : M.forM (gNm 7) (l_law_dressed_1 rec) (encCs cs) (s0 (.tup [.str (S (kwB b)), .tup (encCs cs)]) P more (.own (.lst (([] : List (List Nat)).map encS))) .emp (.val (.int ((0 : Nat) : Int))) .emp m) = some (.nx, s0 (.tup [.str (S (kwB b)), .tup (encCs cs)]) P more (.own (.lst (ws.map encS))) y5 (.val (.int dep)) y7 m')) : Gv (t_law_dressed_7 rec (s0 (encC (.many b cs)) P more .emp .emp .emp .emp m)) (.lst [.lst ((pairsW P ws).map encS), .int ((P + dep : Nat) : Int)]) m' := by
  have m1 := gMul4_one [40] P (by omega)
  have m2 := gMul4_one [41] P (by omega)
  have a2 := addL (a := rep P [40]) (b := ws) (by simp [rep_len]; omega)
  have a3 := addL (a := rep P [40] ++ ws) (b := rep P [41]) (by simp [rep_len]; omega)
  have q1 := kw_cmp b
  have q2 := kw_not b
  rw [encC_many]
  rw [show pairsW P ws = rep P [40] ++ ws ++ rep P [41] from rfl]
  rw [show ((P + dep : Nat) : Int) = (P : Int) + dep by omega]
  rw [show (([] : List (List Nat)).map encS) = ([] : List M.D) from rfl, show (((0 : Nat)) : Int) = 0 from rfl] at hloop
  generalize (rep P [40] ++ ws ++ rep P [41]).map encS = Z at *
  generalize (rep P [40] ++ ws).map encS = Y at *
  generalize (rep P [40]).map encS = R1 at *
  generalize (rep P [41]).map encS = R2 at *
  generalize ws.map encS = W at *
  generalize encCs cs = Cs at *
  generalize S (kwB b) = sk at *
  unfold t_law_dressed_7 t_law_dressed_6 t_law_dressed_5 t_law_dressed_4 t_law_dressed_3 Gv
  unfold s0 at hloop ⊢
  generalize l_law_dressed_1 rec = lp at *
  refine ⟨[.val (.ref 0), .val (.tup [.str sk, .tup Cs]), .val (.int P), .val (.bl more), .own (.lst W), y5, .val (.int dep), y7], ?_⟩
  simp [-gAdd_lst, q1, q2, hloop, lit_o, lit_c, m1, m2, a2, a3]
theorem fn_dressed (k : Nat) (C : M.D) (p0 : Nat) (more : Bool) (m m' m'' : List Cell) (v : M.D) (P : Nat)
    (h1 : b_law_dressed (f_law_dressed k) (s0 C p0 more .emp .emp .emp .emp m) = t_law_dressed_7 (f_law_dressed k) (s0 C P more .emp .emp .emp .emp m'))
    (h2 : Gv (t_law_dressed_7 (f_law_dressed k) (s0 C P more .emp .emp .emp .emp m')) v m'') : f_law_dressed (k + 1) [.ref 0, C, .int (p0 : Int), .bl more] m = some (v, m'') := by
  show fnM 8 (b_law_dressed (f_law_dressed k)) _ _ = _
  generalize f_law_dressed k = rec at *
  obtain ⟨R, h2⟩ := h2
  rw [h2] at h1
  unfold s0 at h1
  generalize b_law_dressed rec = bb at h1
  simp [fnM_ap, h1]
theorem lvs_len : ∀ cs : CnL, COks cs → cs.len ≤ lvs cs
  | .nil, _ => Nat.le_refl 0
  | .cons c cs, h => by
    have := lvs_len cs h.2
    have := lv_pos c h.1
    show cs.len + 1 ≤ lv c + lvs cs
    omega
/-- what dressing gives, and its length -/
structure De (more : Bool) (c : Cn) (p0 P : Nat) (ws : List (List Nat)) (dep : Nat) : Prop where
  dd : Dd c P ws dep
  ne : 1 ≤ ws.length
  lo : p0 ≤ P
  pl : more = false → ws = pairsW p0 (wdC c)
theorem nd_le (b : Bool) (c : Cn) : nd b c ≤ 1 := by unfold nd; split <;> omega
theorem nd_need {b : Bool} {c : Cn} {P : Nat} (h : nd b c ≤ P) : need b c = true → 1 ≤ P := by
  intro z; unfold nd at h; rw [if_pos z] at h; exact h
mutual
theorem dressed_C (ds : List Int) (m : List Cell) (more : Bool) : ∀ (c : Cn) (k : Nat), COk c → ht c < k → 60 * (lv c * (ht c + 1)) ≤ 100000 → ∀ (p0 : Nat) (p : Int), p0 ≤ 9 → 0 ≤ p → ∃ (P : Nat) (ws : List (List Nat)) (dep : Nat) (p' : Int), 0 ≤ p' ∧ De more c p0 P ws dep ∧ f_law_dressed k [.ref 0, encC c, .int (p0 : Int), .bl more] (Hd ds p :: m) = some (.lst [.lst (ws.map encS), .int (dep : Nat)], Hd ds p' :: m)
  | .cmp g l r, k, hc, hk, hb, p0, p, h9, hp => by
    obtain ⟨k, rfl⟩ : ∃ j, k = j + 1 := ⟨k - 1, by omega⟩
    obtain ⟨P, p', hp', h1, h2, h3, e⟩ := dz_first (f_law_dressed k) (encC (.cmp g l r)) p0 more ds p hp m
    have g1 := wd_len l
    have g2 := wd_len r
    refine ⟨P, pairsW P (wd l ++ [g] ++ wd r), P, p', hp', ⟨⟨.cmp P, ?_, ?_⟩, ?_, h1, fun z => by rw [h3 z]; rfl⟩, fn_dressed k _ _ _ _ _ _ _ P e (dz_cmp _ g l r hc.1 hc.2.1 hc.2.2 P (by omega) more _)⟩
    · rw [pairs_len]
      show 2 * P + (wd l ++ [g] ++ wd r).length ≤ 60 * (1 * (0 + 1))
      simp; omega
    · refine g_pairs fun w hw => ?_
      simp only [List.mem_append, List.mem_cons, List.not_mem_nil, or_false] at hw
      rcases hw with (hw | hw) | hw
      · exact gwd_wd hc.2.1 w hw
      · rw [hw]; exact g_sg g hc.1
      · exact gwd_wd hc.2.2 w hw
    · rw [pairs_len]; simp; omega
  | .neg c, k, hc, hk, hb, p0, p, h9, hp => by
    obtain ⟨k, rfl⟩ : ∃ j, k = j + 1 := ⟨k - 1, by omega⟩
    obtain ⟨P, p', hp', h1, h2, h3, e⟩ := dz_first (f_law_dressed k) (encC (.neg c)) p0 more ds p hp m
    have hht : ht (.neg c) = ht c + 1 := rfl
    have hlv : lv (.neg c) = lv c := rfl
    have hpos := lv_pos c hc
    have hmul : lv c * (ht c + 1 + 1) = lv c * (ht c + 1) + lv c := Nat.mul_succ _ _
    rw [hht, hlv, hmul] at hb
    rw [hht] at hk
    have hnd := nd_le true c
    obtain ⟨P1, ws, dep, p1, hp1, he, e1⟩ := dressed_C ds m more c k hc (by omega) (by omega) (nd true c) p' (by omega) hp'
    have hln := he.dd.ln
    refine ⟨P, pairsW P ([NOT] ++ ws), P + 1 + dep, p1, hp1, ⟨⟨.neg P he.dd.dr (nd_need he.lo), ?_, ?_⟩, ?_, h1, fun z => by rw [h3 z, he.pl z]; rfl⟩, fn_dressed k _ _ _ _ _ _ _ P e (dz_neg _ c P (by omega) more _ _ ws (by omega) dep e1)⟩
    · rw [pairs_len, hht, hlv, hmul]
      simp; omega
    · refine g_pairs fun w hw => ?_
      rcases List.mem_cons.mp hw with rfl | hw
      · exact g_kw (.inl rfl)
      · exact he.dd.gw w hw
    · rw [pairs_len]; simp; omega
  | .many b cs, k, hc, hk, hb, p0, p, h9, hp => by
    obtain ⟨k, rfl⟩ : ∃ j, k = j + 1 := ⟨k - 1, by omega⟩
    obtain ⟨P, p', hp', h1, h2, h3, e⟩ := dz_first (f_law_dressed k) (encC (.many b cs)) p0 more ds p hp m
    have hht : ht (.many b cs) = hts cs + 1 := rfl
    have hlv : lv (.many b cs) = lvs cs := rfl
    have hmul : lvs cs * (hts cs + 1 + 1) = lvs cs * (hts cs + 1) + lvs cs := Nat.mul_succ _ _
    rw [hht, hlv, hmul] at hb
    rw [hht] at hk
    have hll := lvs_len cs hc.2
    have h2l := hc.1
    obtain ⟨ws, dep, p1, y5, y7, hp1, g1, g2, g3, g4, g5, e1⟩ := dressed_L ds m more cs b k hc.2 (by omega) (by omega) [] 0 .emp .emp p' P (.tup (encCs cs)) (by omega) (by simp; omega) hp'
    rw [show fro [] b ++ ws = ws from rfl, Nat.zero_max] at e1
    refine ⟨P, pairsW P ws, P + dep, p1, hp1, ⟨⟨.many P g1, ?_, g_pairs g4⟩, ?_, h1, fun z => by rw [h3 z, g5 z]; rfl⟩, fn_dressed k _ _ _ _ _ _ _ P e (dz_many _ b cs P (by omega) more _ _ ws (by omega) dep y5 y7 e1)⟩
    · rw [pairs_len, hht, hlv, hmul]
      omega
    · rw [pairs_len]; omega
theorem dressed_L (ds : List Int) (m : List Cell) (more : Bool) : ∀ (cs : CnL) (b : Bool) (k : Nat), COks cs → 1 ≤ cs.len → hts cs < k → ∀ (acc : List (List Nat)) (dp : Nat) (x5 x7 : M.Slot) (p : Int) (P : Nat) (T : M.D), 60 * (lvs cs * (hts cs + 1)) ≤ 100000 → acc.length + (60 * (lvs cs * (hts cs + 1)) + cs.len) ≤ 300000 → 0 ≤ p →
    ∃ (ws : List (List Nat)) (dep : Nat) (p' : Int) (y5 y7 : M.Slot), 0 ≤ p' ∧ DrL b cs ws dep ∧ ws.length ≤ 60 * (lvs cs * (hts cs + 1)) + cs.len ∧ 1 ≤ ws.length ∧ (∀ w ∈ ws, GWd w) ∧ (more = false → ws = wdL b cs) ∧
      M.forM (gNm 7) (l_law_dressed_1 (f_law_dressed k)) (encCs cs) (s0 (.tup [.str (S (kwB b)), T]) P more (.own (.lst (acc.map encS))) x5 (.val (.int (dp : Nat))) x7 (Hd ds p :: m)) = some (.nx, s0 (.tup [.str (S (kwB b)), T]) P more (.own (.lst ((fro acc b ++ ws).map encS))) y5 (.val (.int ((max dp dep : Nat) : Int))) y7 (Hd ds p' :: m))
  | .nil, b, k, _, hl, _, _, _, _, _, _, _, _, _, _, _ => absurd hl (by show ¬ 1 ≤ 0; omega)
  | .cons c cs, b, k, hc, _, hk, acc, dp, x5, x7, p, P, T, hb2, hb, hp => by
    have hht : hts (.cons c cs) = max (ht c) (hts cs) := rfl
    have hlv : lvs (.cons c cs) = lv c + lvs cs := rfl
    have hln : CnL.len (.cons c cs) = cs.len + 1 := rfl
    rw [hht, hlv, hln] at hb
    rw [hht, hlv] at hb2
    rw [hht] at hk
    rw [hht, hlv, hln]
    have hmul : (lv c + lvs cs) * (max (ht c) (hts cs) + 1) = lv c * (max (ht c) (hts cs) + 1) + lvs cs * (max (ht c) (hts cs) + 1) := Nat.add_mul _ _ _
    have hm1 : lv c * (ht c + 1) ≤ lv c * (max (ht c) (hts cs) + 1) := Nat.mul_le_mul_left _ (by omega)
    have hm2 : lvs cs * (hts cs + 1) ≤ lvs cs * (max (ht c) (hts cs) + 1) := Nat.mul_le_mul_left _ (by omega)
    rw [hmul] at hb hb2 ⊢
    clear hmul
    generalize lv c * (max (ht c) (hts cs) + 1) = q1 at *
    generalize lvs cs * (max (ht c) (hts cs) + 1) = q2 at *
    have hnd := nd_le b c
    obtain ⟨P1, ws, dep, p1, hp1, he, e1⟩ := dressed_C ds m more c k hc.1 (by omega) (by omega) (nd b c) p (by omega) hp
    have hwl := he.dd.ln
    have hne := he.ne
    have es := dz_step (f_law_dressed k) b c T P more _ _ acc ws (by omega) dp dep x5 e1
    have estep : M.forM (gNm 7) (l_law_dressed_1 (f_law_dressed k)) (encCs (.cons c cs)) (s0 (.tup [.str (S (kwB b)), T]) P more (.own (.lst (acc.map encS))) x5 (.val (.int (dp : Nat))) x7 (Hd ds p :: m)) = M.forM (gNm 7) (l_law_dressed_1 (f_law_dressed k)) (encCs cs) (s0 (.tup [.str (S (kwB b)), T]) P more (.own (.lst ((fro acc b ++ ws).map encS))) (.val (.lst [.lst (ws.map encS), .int dep])) (.val (.int ((max dp dep : Nat) : Int))) (.val (encC c)) (Hd ds p1 :: m)) := by
      rw [encCs_cons, forM_cons]
      generalize M.forM (gNm 7) (l_law_dressed_1 (f_law_dressed k)) (encCs cs) = K
      generalize l_law_dressed_1 (f_law_dressed k) = lp at es ⊢
      unfold s0 at es ⊢
      simp [es]
    cases hcs : cs with
    | nil =>
      rw [hcs] at estep
      refine ⟨ws, dep, p1, .val (.lst [.lst (ws.map encS), .int dep]), .val (encC c), hp1, .one he.dd.dr (nd_need he.lo), by omega, hne, he.dd.gw, fun z => by rw [wdL_one]; exact he.pl z, ?_⟩
      rw [estep]; rfl
    | cons c2 cs2 =>
      rw [← hcs]
      have hfl : (fro acc b ++ ws).length ≤ acc.length + 1 + ws.length := by
        unfold fro; split <;> simp <;> omega
      have hfn : fro acc b ++ ws ≠ [] := fun z => by
        have hz : (fro acc b ++ ws).length = 0 := by rw [z]; rfl
        rw [List.length_append] at hz
        omega
      obtain ⟨ws2, dep2, p2, y5, y7, hp2, g1, g2, g3, g4, g5, e2⟩ := dressed_L ds m more cs b k hc.2 (by rw [hcs]; exact Nat.le_add_left 1 _) (by omega) (fro acc b ++ ws) (max dp dep) (.val (.lst [.lst (ws.map encS), .int dep])) (.val (encC c)) p1 P T (by omega) (by omega) hp1
      refine ⟨ws ++ ([kwB b] ++ ws2), max dep dep2, p2, y5, y7, hp2, .cons he.dd.dr (nd_need he.lo) g1, by simp; omega, by rw [List.length_append]; omega, ?_, fun z => ?_, ?_⟩
      · intro w hw
        simp only [List.mem_append, List.mem_cons, List.not_mem_nil, or_false] at hw
        rcases hw with hw | hw | hw
        · exact he.dd.gw w hw
        · rw [hw]; cases b
          · exact g_kw (.inr (.inr (.inl rfl)))
          · exact g_kw (.inr (.inl rfl))
        · exact g4 w hw
      · rw [he.pl z, g5 z, hcs, wdL_cons]
      · rw [estep, e2]
        have hfr : fro (fro acc b ++ ws) b = fro acc b ++ ws ++ [kwB b] := by
          generalize fro acc b ++ ws = Q at hfn ⊢
          unfold fro
          rw [if_neg hfn]
        rw [hfr]
        rw [Nat.max_assoc]
        simp
end
end Lk03



namespace Lk03
open PySem L2 M
/-! the text of a condition -/
def wr (b : Bool) (c : Cn) (t : List Nat) : List Nat := if need b c = true then [40] ++ t ++ [41] else t
def sepB (b : Bool) : List Nat := [32] ++ kwB b ++ [32]
mutual
def txC : Cn → List Nat
  | .cmp g l r => tx l ++ [32] ++ g ++ [32] ++ tx r
  | .neg c => NOT ++ [32] ++ wr true c (txC c)
  | .many b cs => TL.joinL (sepB b) (txL b cs)
def txL (b : Bool) : CnL → List (List Nat)
  | .nil => []
  | .cons c cs => wr b c (txC c) :: txL b cs
end
theorem txC_cmp (g : List Nat) (l r : Ex) : txC (.cmp g l r) = tx l ++ [32] ++ g ++ [32] ++ tx r := by unfold txC; rfl
theorem txC_neg (c : Cn) : txC (.neg c) = NOT ++ [32] ++ wr true c (txC c) := by conv => lhs; unfold txC
theorem txC_many (b : Bool) (cs : CnL) : txC (.many b cs) = TL.joinL (sepB b) (txL b cs) := by conv => lhs; unfold txC
theorem txL_nil (b : Bool) : txL b .nil = [] := by unfold txL; rfl
theorem txL_cons (b : Bool) (c : Cn) (cs : CnL) : txL b (.cons c cs) = wr b c (txC c) :: txL b cs := by conv => lhs; unfold txL
theorem tx_len {e : Ex} (h : ExOk e) : (tx e).length ≤ 52 := by
  cases e with
  | pl p => have := txP_len h; show (txP p).length ≤ 52; omega
  | item s p c =>
    obtain ⟨h1, h2, h3⟩ := h
    have := txP_len h2
    have := plusT_len h3
    have := h1.spec
    show (s ++ [91] ++ txP p ++ [93] ++ plusT c).length ≤ 52
    simp; omega
theorem sg_len : ∀ g ∈ SGS, g.length ≤ 2 := by decide +kernel
theorem wr_len (b : Bool) (c : Cn) (t : List Nat) : (wr b c t).length ≤ t.length + 2 := by
  unfold wr; split <;> simp
theorem joinL_len (s : List Nat) : ∀ ys : List (List Nat), (TL.joinL s ys).length ≤ ys.flatten.length + ys.length * s.length
  | [] => by simp [TL.joinL]
  | [p] => by simp [TL.joinL]
  | p :: q :: r => by
    show (p ++ (s ++ TL.joinL s (q :: r))).length ≤ _
    have := joinL_len s (q :: r)
    rw [List.flatten_cons, List.length_append, List.length_append, List.length_append, List.length_cons, Nat.succ_mul]
    omega
theorem sepB_len (b : Bool) : (sepB b).length ≤ 5 := by cases b <;> decide
theorem txL_len : ∀ (b : Bool) (cs : CnL), (txL b cs).length = cs.len
  | b, .nil => by rw [txL_nil]; rfl
  | b, .cons c cs => by rw [txL_cons, List.length_cons, txL_len b cs]; rfl
mutual
theorem txC_len : ∀ c : Cn, COk c → (txC c).length ≤ 120 * (lv c * (ht c + 1))
  | .cmp g l r, h => by
    have := tx_len h.2.1
    have := tx_len h.2.2
    have := sg_len g h.1
    rw [txC_cmp]
    show _ ≤ 120 * (1 * (0 + 1))
    simp; omega
  | .neg c, h => by
    have h1 := txC_len c h
    have h2 := wr_len true c (txC c)
    have h3 := lv_pos c h
    have hmul : lv c * (ht c + 1 + 1) = lv c * (ht c + 1) + lv c := Nat.mul_succ _ _
    rw [txC_neg]
    show _ ≤ 120 * (lv c * (ht c + 1 + 1))
    rw [hmul, List.length_append, show (NOT ++ [32] : List Nat).length = 4 from rfl]
    omega
  | .many b cs, h => by
    have h1 := txLs_len b cs h.2
    have h2 := joinL_len (sepB b) (txL b cs)
    have h3 := lvs_len cs h.2
    have h4 := sepB_len b
    have h5 : (txL b cs).length * (sepB b).length ≤ (txL b cs).length * 5 := Nat.mul_le_mul_left _ h4
    have hmul : lvs cs * (hts cs + 1 + 1) = lvs cs * (hts cs + 1) + lvs cs := Nat.mul_succ _ _
    rw [txL_len] at h5 h2
    rw [txC_many]
    show _ ≤ 120 * (lvs cs * (hts cs + 1 + 1))
    rw [hmul]
    have h6 := h.1
    omega
theorem txLs_len : ∀ (b : Bool) (cs : CnL), COks cs → (txL b cs).flatten.length ≤ 120 * (lvs cs * (hts cs + 1)) + 2 * cs.len
  | b, .nil, _ => by rw [txL_nil]; simp
  | b, .cons c cs, h => by
    have h1 := txC_len c h.1
    have h2 := wr_len b c (txC c)
    have h3 := txLs_len b cs h.2
    have hmul : (lv c + lvs cs) * (max (ht c) (hts cs) + 1) = lv c * (max (ht c) (hts cs) + 1) + lvs cs * (max (ht c) (hts cs) + 1) := Nat.add_mul _ _ _
    have hm1 : lv c * (ht c + 1) ≤ lv c * (max (ht c) (hts cs) + 1) := Nat.mul_le_mul_left _ (by omega)
    have hm2 : lvs cs * (hts cs + 1) ≤ lvs cs * (max (ht c) (hts cs) + 1) := Nat.mul_le_mul_left _ (by omega)
    rw [txL_cons, List.flatten_cons, List.length_append]
    show _ ≤ 120 * ((lv c + lvs cs) * (max (ht c) (hts cs) + 1)) + 2 * (cs.len + 1)
    rw [hmul]
    omega
end
theorem wr_W {e : Ex} (h : ExOk e) (n : Nat) (hn : 2 ≤ n) (m : List Cell) : f_write_expression n [encE e] m = some (.str (S (tx e)), m) ∧ f_law_text n [encE e] m = some (.str (S (tx e)), m) := by
  obtain ⟨k, rfl⟩ : ∃ k, n = k + 2 := ⟨n - 2, by omega⟩
  exact wr_E h k m
/-! joined texts -/
theorem join_Ss (s : List Nat) (ys : List (List Nat)) : Txt.join (S s) (ys.map S) = S (TL.joinL s ys) := by
  show PySem.Builtin.Str.glued (S s) _ = _
  rw [StrLaws.glued_eq_join]
  apply TL.ext_tl
  rw [TL.tl_join, show TL.tl (S s) = s from rfl, List.map_map]
  have : (TL.tl ∘ S) = id := by funext l; rfl
  rw [this, List.map_id]; rfl
theorem joinOk_Ss {s : List Nat} {ys : List (List Nat)} (h : ys.flatten.length + ys.length * s.length ≤ 16777216) : joinOk (S s) (ys.map S) := by
  unfold joinOk
  rw [List.map_map, List.length_map, S_len]
  have : ((fun z : Str => z.length) ∘ S) = List.length := by funext l; simp
  rw [this, ← List.length_flatten]
  exact h
theorem wr_add (b : Bool) (c : Cn) {t : List Nat} (h : t.length ≤ 900000) : wr b c t = (if need b c = true then [40] ++ t ++ [41] else t) ∧ gAdd (.str (S [40])) (.str (S t)) = some (.str (S ([40] ++ t))) ∧ gAdd (.str (S ([40] ++ t))) (.str (S [41])) = some (.str (S ([40] ++ t ++ [41]))) :=
  ⟨rfl, addS (by simp; omega), addS (by simp; omega)⟩
def wordsB : Bool → List M.D
  | true => [.str "and", .str "or"]
  | false => [.str "or"]
theorem in_wordsB (b : Bool) (c : Cn) : gIn3 false (.str (S (headW c))) (.tup (wordsB b)) = some (.bl (need b c)) := by
  cases b with
  | true =>
    have := inStrs_t (headW c) [AND, ORR]
    rw [show decide (headW c ∈ [AND, ORR]) = isMany c by rw [← headW_many]; simp] at this
    show gIn3 false (.str (S (headW c))) (.tup [.str "and", .str "or"]) = _
    rw [lit_and, lit_or]; exact this
  | false =>
    have := inStrs_t (headW c) [ORR]
    rw [show decide (headW c ∈ [ORR]) = isOr c by rw [← headW_or]; simp] at this
    show gIn3 false (.str (S (headW c))) (.tup [.str "or"]) = _
    rw [lit_or]; exact this
theorem write_part_ok (k : Nat) (b : Bool) (c : Cn) (hl : (txC c).length ≤ 900000) (m : List Cell) (h : f_write_condition k [encC c] m = some (.str (S (txC c)), m)) : f_write_part (k + 1) [encC c, .tup (wordsB b)] m = some (.str (S (wr b c (txC c))), m) := by
  obtain ⟨es, he⟩ := encC_head c
  obtain ⟨_, a1, a2⟩ := wr_add b c hl
  have hi := in_wordsB b c
  rw [f_write_part_succ]
  generalize f_write_condition k = rc at h
  generalize f_write_part k = rp
  rw [he] at h ⊢
  unfold wr b_write_part
  generalize S (headW c) = hd at *
  generalize wordsB b = wb at *
  generalize txC c = t at *
  generalize [40] ++ t ++ [41] = Z at *
  generalize [40] ++ t = Y at *
  cases hn : need b c with
  | true =>
    rw [hn] at hi
    simp [-gAdd_str, fnM_ap, hi, h, lit_o, lit_c, a1, a2]
  | false =>
    rw [hn] at hi
    simp [-gAdd_str, fnM_ap, hi, h]
theorem write_cmp (k : Nat) (g : List Nat) (l r : Ex) (hg : g ∈ SGS) (hl : ExOk l) (hr : ExOk r) (m : List Cell) : f_write_condition (k + 1) [encC (.cmp g l r)] m = some (.str (S (txC (.cmp g l r))), m) ∧ f_law_condition_text (k + 1) [encC (.cmp g l r)] m = some (.str (S (txC (.cmp g l r))), m) := by
  obtain ⟨e1, e2⟩ := wr_W hl 48 (by omega) m
  obtain ⟨e3, e4⟩ := wr_W hr 48 (by omega) m
  have l1 := tx_len hl
  have l2 := tx_len hr
  have l3 := sg_len g hg
  have a1 := addS (a := tx l) (b := [32]) (by simp; omega)
  have a2 := addS (a := tx l ++ [32]) (b := g) (by simp; omega)
  have a3 := addS (a := tx l ++ [32] ++ g) (b := [32]) (by simp; omega)
  have a4 := addS (a := tx l ++ [32] ++ g ++ [32]) (b := tx r) (by simp; omega)
  rw [txC_cmp, encC_cmp]
  generalize tx l ++ [32] ++ g ++ [32] ++ tx r = Z at *
  generalize tx l ++ [32] ++ g ++ [32] = Y at *
  generalize tx l ++ [32] ++ g = X at *
  generalize tx l ++ [32] = W at *
  generalize encE l = E1 at *
  generalize encE r = E2 at *
  refine ⟨?_, ?_⟩
  · rw [f_write_condition_succ]
    unfold b_write_condition
    generalize f_write_expression 48 = fe at *
    generalize t_write_condition_2 (f_write_part k) (f_write_condition k) = tl
    revert tl; refine opq ?_; intro tl
    simp [-gAdd_str, fnM_ap, so_cmp, e1, e3, lit_sp, a1, a2, a3, a4]
  · show fnM 5 (b_law_condition_text (f_law_condition_text k)) _ _ = _
    unfold b_law_condition_text
    generalize f_law_text 48 = fe at *
    generalize t_law_condition_text_5 (f_law_condition_text k) = tl
    revert tl; refine opq ?_; intro tl
    simp [-gAdd_str, fnM_ap, so_cmp, e2, e4, lit_sp, a1, a2, a3, a4]
theorem lit_nots : ("not " : Str) = S (NOT ++ [32]) := by decide +kernel
theorem write_neg (k : Nat) (c : Cn) (hl : (txC c).length ≤ 900000) (m : List Cell) (h : f_write_part k [encC c, .tup (wordsB true)] m = some (.str (S (wr true c (txC c))), m)) : f_write_condition (k + 1) [encC (.neg c)] m = some (.str (S (txC (.neg c))), m) := by
  have hw := wr_len true c (txC c)
  have a1 := addS (a := NOT ++ [32]) (b := wr true c (txC c)) (by rw [show (NOT ++ [32] : List Nat).length = 4 from rfl]; omega)
  have q1 := lit_cmp_ne NOT (by decide) ok_NOT
  have q2 := eqS ok_NOT ok_NOT
  rw [decide_eq_true rfl] at q2
  have h' : f_write_part k [encC c, .tup [.str "and", .str "or"]] m = some (.str (S (wr true c (txC c))), m) := h
  rw [txC_neg, encC_neg, f_write_condition_succ]
  generalize wr true c (txC c) = T at *
  generalize encC c = C at *
  unfold b_write_condition t_write_condition_2
  generalize f_write_expression 48 = fe
  generalize t_write_condition_1 (f_write_part k) (f_write_condition k) = tl
  generalize f_write_part k = rp at *
  revert tl; refine opq ?_; intro tl
  simp [-gAdd_str, fnM_ap, q1, lit_not, q2, ← lit_and, ← lit_or, h', lit_nots, a1]
theorem sep_and : (" and " : Str) = S (sepB true) := by decide +kernel
theorem sep_or : (" or " : Str) = S (sepB false) := by decide +kernel
def cW (b : Bool) (rp rc : FF) : EF := if b = true then c_write_condition_1 rp rc else c_write_condition_2 rp rc
theorem kw_eq (b : Bool) : eqD (.str (S (kwB b))) (.str "and") = some b := by
  rw [lit_and, eqS (ok_kw b) ok_AND]; cases b <;> rfl
theorem write_many (k : Nat) (b : Bool) (cs : CnL) (hl : (txL b cs).flatten.length + (txL b cs).length * (sepB b).length ≤ 16777216) (m : List Cell) (h : lcM (gNm 1) bYes (cW b (f_write_part k) (f_write_condition k)) [1] (encCs cs) [] ⟨[.val (encC (.many b cs)), .emp], m⟩ = some ((txL b cs).map encS, ⟨[.val (encC (.many b cs)), .emp], m⟩)) : f_write_condition (k + 1) [encC (.many b cs)] m = some (.str (S (txC (.many b cs))), m) := by
  have q1 := kw_cmp b
  have q2 := kw_not b
  have q3 := kw_eq b
  have j1 := joinOk_Ss hl
  have j2 := join_Ss (sepB b) (txL b cs)
  have j3 := strsD_S (txL b cs)
  rw [txC_many, f_write_condition_succ]
  rw [encC_many] at h ⊢
  generalize TL.joinL (sepB b) (txL b cs) = Z at *
  generalize (txL b cs).map S = ys at *
  generalize (txL b cs).map encS = W at *
  generalize encCs cs = Cs at *
  unfold b_write_condition t_write_condition_2 t_write_condition_1
  unfold cW at h
  generalize f_write_expression 48 = fe
  generalize f_write_part k = rp at *
  generalize f_write_condition k = rc at *
  cases b with
  | true =>
    rw [if_pos rfl] at h
    generalize c_write_condition_1 rp rc = c1 at *
    generalize c_write_condition_2 rp rc = c2 at *
    generalize S (kwB true) = sk at *
    simp [fnM_ap, q1, q2, q3, h, sep_and, j1, j2, j3]
  | false =>
    rw [if_neg (by simp)] at h
    generalize c_write_condition_1 rp rc = c1 at *
    generalize c_write_condition_2 rp rc = c2 at *
    generalize S (kwB false) = sk at *
    simp [fnM_ap, q1, q2, q3, h, sep_or, j1, j2, j3]
mutual
theorem write_C (m : List Cell) : ∀ (c : Cn) (k : Nat), COk c → 2 * ht c < k → lv c * (ht c + 1) ≤ 1000 → f_write_condition k [encC c] m = some (.str (S (txC c)), m)
  | .cmp g l r, k, h, hk, hb => by
    obtain ⟨k, rfl⟩ : ∃ j, k = j + 1 := ⟨k - 1, by omega⟩
    exact (write_cmp k g l r h.1 h.2.1 h.2.2 m).1
  | .neg c, k, h, hk, hb => by
    have hht : ht (.neg c) = ht c + 1 := rfl
    have hlv : lv (.neg c) = lv c := rfl
    have hmul : lv c * (ht c + 1 + 1) = lv c * (ht c + 1) + lv c := Nat.mul_succ _ _
    rw [hht, hlv, hmul] at hb
    rw [hht] at hk
    obtain ⟨k, rfl⟩ : ∃ j, k = j + 2 := ⟨k - 2, by omega⟩
    have hl := txC_len c h
    exact write_neg (k + 1) c (by omega) m (write_part_ok k true c (by omega) m (write_C m c k h (by omega) (by omega)))
  | .many b cs, k, h, hk, hb => by
    have hht : ht (.many b cs) = hts cs + 1 := rfl
    have hlv : lv (.many b cs) = lvs cs := rfl
    have hmul : lvs cs * (hts cs + 1 + 1) = lvs cs * (hts cs + 1) + lvs cs := Nat.mul_succ _ _
    rw [hht, hlv, hmul] at hb
    rw [hht] at hk
    obtain ⟨k, rfl⟩ : ∃ j, k = j + 2 := ⟨k - 2, by omega⟩
    have h1 := txLs_len b cs h.2
    have h3 := lvs_len cs h.2
    have h4 := sepB_len b
    have h5 : (txL b cs).length * (sepB b).length ≤ (txL b cs).length * 5 := Nat.mul_le_mul_left _ h4
    rw [txL_len] at h5
    refine write_many (k + 1) b cs (by rw [txL_len]; omega) m ?_
    have := write_L m cs b k h.2 (by omega) (by omega) (encC (.many b cs)) [] (by simp; omega)
    rw [this, List.nil_append]
theorem write_L (m : List Cell) : ∀ (cs : CnL) (b : Bool) (k : Nat), COks cs → 2 * hts cs < k → lvs cs * (hts cs + 1) ≤ 1000 → ∀ (C : M.D) (acc : List M.D), acc.length + cs.len ≤ 10000 → lcM (gNm 1) bYes (cW b (f_write_part (k + 1)) (f_write_condition (k + 1))) [1] (encCs cs) acc ⟨[.val C, .emp], m⟩ = some (acc ++ (txL b cs).map encS, ⟨[.val C, .emp], m⟩)
  | .nil, b, k, _, _, _, C, acc, _ => by
    rw [txL_nil, show encCs .nil = [] from rfl, List.map_nil, List.append_nil]; rfl
  | .cons c cs, b, k, h, hk, hb, C, acc, ha => by
    have hht : hts (.cons c cs) = max (ht c) (hts cs) := rfl
    have hlv : lvs (.cons c cs) = lv c + lvs cs := rfl
    have hln : CnL.len (.cons c cs) = cs.len + 1 := rfl
    rw [hht, hlv] at hb
    rw [hht] at hk
    rw [hln] at ha
    have hmul : (lv c + lvs cs) * (max (ht c) (hts cs) + 1) = lv c * (max (ht c) (hts cs) + 1) + lvs cs * (max (ht c) (hts cs) + 1) := Nat.add_mul _ _ _
    have hm1 : lv c * (ht c + 1) ≤ lv c * (max (ht c) (hts cs) + 1) := Nat.mul_le_mul_left _ (by omega)
    have hm2 : lvs cs * (hts cs + 1) ≤ lvs cs * (max (ht c) (hts cs) + 1) := Nat.mul_le_mul_left _ (by omega)
    have hl := txC_len c h.1
    rw [hmul] at hb
    clear hmul
    have e1 := write_part_ok k b c (by omega) m (write_C m c k h.1 (by omega) (by omega))
    have e2 := write_L m cs b k h.2 (by omega) (by omega) C (acc ++ [encS (wr b c (txC c))]) (by simp; omega)
    rw [txL_cons, encCs_cons, List.map_cons, show acc ++ encS (wr b c (txC c)) :: (txL b cs).map encS = acc ++ [encS (wr b c (txC c))] ++ (txL b cs).map encS by simp, ← e2, lcM_cons]
    generalize hK : lcM (gNm 1) bYes (cW b (f_write_part (k + 1)) (f_write_condition (k + 1))) [1] (encCs cs) = K
    clear hK e2
    unfold cW
    generalize f_write_condition (k + 1) = rc at *
    generalize f_write_part (k + 1) = rp at *
    unfold encS
    generalize wr b c (txC c) = T at *
    generalize encC c = D0 at *
    cases b with
    | true =>
      have e1' : rp [D0, .tup [.str "and", .str "or"]] m = some (.str (S T), m) := e1
      rw [if_pos rfl]
      unfold c_write_condition_1
      simp [wipeR, restR, e1', show acc.length < 1000000 by omega]
    | false =>
      have e1' : rp [D0, .tup [.str "or"]] m = some (.str (S T), m) := e1
      rw [if_neg (by simp)]
      unfold c_write_condition_2
      simp [wipeR, restR, e1', show acc.length < 1000000 by omega]
end
/-! the law's own text -/
theorem needs_w (w : List Nat) (hw : w = NOT ∨ w = AND ∨ w = ORR) (b : Bool) (hb : decide (w ≠ ORR) = b) (c : Cn) (m : List Cell) : f_law_needs [.str (S w), encC c] m = some (.bl (need b c), m) := by
  subst hb; exact needs_ok w hw c m
theorem text_step (rec : FF) (w : List Nat) (hw : w = NOT ∨ w = AND ∨ w = ORR) (b : Bool) (hb : decide (w ≠ ORR) = b) (c : Cn) (R : List M.D) (v1 x4 : M.Slot) (acc : List M.D) (ha : acc.length < 10000) (hl : (txC c).length ≤ 900000) (m : List Cell) (h : rec [encC c] m = some (.str (S (txC c)), m)) : ∃ y4, l_law_condition_text_1 rec ⟨[.val (.tup (.str (S w) :: R)), v1, .own (.lst acc), .val (encC c), x4], m⟩ = some (.nx, ⟨[.val (.tup (.str (S w) :: R)), v1, .own (.lst (acc ++ [encS (wr b c (txC c))])), .val (encC c), y4], m⟩) := by
  obtain ⟨_, a1, a2⟩ := wr_add b c hl
  have hn := needs_w w hw b hb c
  refine ⟨.val (encS (wr b c (txC c))), ?_⟩
  unfold l_law_condition_text_1 encS wr
  generalize S w = W at *
  generalize encC c = C at *
  generalize txC c = t at *
  generalize [40] ++ t ++ [41] = Z at *
  generalize [40] ++ t = Y at *
  cases hnb : need b c with
  | true =>
    rw [hnb] at hn
    simp [-gAdd_str, hn, h, lit_o, lit_c, a1, a2, show acc.length < 1000000 by omega]
  | false =>
    rw [hnb] at hn
    simp [-gAdd_str, hn, h, show acc.length < 1000000 by omega]
theorem text_neg (k : Nat) (c : Cn) (hl : (txC c).length ≤ 900000) (m : List Cell) (h : f_law_condition_text k [encC c] m = some (.str (S (txC c)), m)) : f_law_condition_text (k + 1) [encC (.neg c)] m = some (.str (S (txC (.neg c))), m) := by
  have hw := wr_len true c (txC c)
  have a1 := addS (a := NOT ++ [32]) (b := wr true c (txC c)) (by rw [show (NOT ++ [32] : List Nat).length = 4 from rfl]; omega)
  have q1 := lit_cmp_ne NOT (by decide) ok_NOT
  have q2 := eqS ok_NOT ok_NOT
  rw [decide_eq_true rfl] at q2
  obtain ⟨y4, e1⟩ := text_step (f_law_condition_text k) NOT (.inl rfl) true (by decide) c [encC c] (.val (.lst [encC c])) .emp [] (by simp) hl m h
  rw [txC_neg, encC_neg]
  show fnM 5 (b_law_condition_text (f_law_condition_text k)) _ _ = _
  unfold b_law_condition_text t_law_condition_text_5 t_law_condition_text_4 t_law_condition_text_3 t_law_condition_text_2 t_law_condition_text_1
  generalize f_law_text 48 = fe
  unfold encS at e1
  generalize wr true c (txC c) = T at *
  generalize encC c = C at *
  generalize l_law_condition_text_1 (f_law_condition_text k) = lp at *
  simp only [List.nil_append] at e1
  have e2 : M.forM (gNm 3) lp [C] ⟨[.val (.tup [.str (S NOT), C]), .val (.lst [C]), .own (.lst []), .emp, .emp], m⟩ = some (.nx, ⟨[.val (.tup [.str (S NOT), C]), .val (.lst [C]), .own (.lst [.str (S T)]), .val C, y4], m⟩) := by
    rw [forM_cons]
    simp [e1, forM_nil]
  simp [-gAdd_str, fnM_ap, q1, lit_not, q2, e2, lit_nots, a1]
theorem text_many (k : Nat) (b : Bool) (cs : CnL) (hl : (txL b cs).flatten.length + (txL b cs).length * (sepB b).length ≤ 16777216) (m : List Cell) (y3 y4 : M.Slot) (h : M.forM (gNm 3) (l_law_condition_text_1 (f_law_condition_text k)) (encCs cs) ⟨[.val (encC (.many b cs)), .val (.tup (encCs cs)), .own (.lst []), .emp, .emp], m⟩ = some (.nx, ⟨[.val (encC (.many b cs)), .val (.tup (encCs cs)), .own (.lst ((txL b cs).map encS)), y3, y4], m⟩)) : f_law_condition_text (k + 1) [encC (.many b cs)] m = some (.str (S (txC (.many b cs))), m) := by
  have q1 := kw_cmp b
  have q2 := kw_not b
  have j1 := joinOk_Ss hl
  have j2 := join_Ss (sepB b) (txL b cs)
  have j3 := strsD_S (txL b cs)
  have a1 : gAdd (.str (S [32])) (.str (S (kwB b))) = some (.str (S ([32] ++ kwB b))) := addS (by cases b <;> decide)
  have a2 : gAdd (.str (S ([32] ++ kwB b))) (.str (S [32])) = some (.str (S (sepB b))) := addS (by cases b <;> decide)
  rw [txC_many]
  rw [encC_many] at h ⊢
  show fnM 5 (b_law_condition_text (f_law_condition_text k)) _ _ = _
  unfold b_law_condition_text t_law_condition_text_5 t_law_condition_text_4 t_law_condition_text_3 t_law_condition_text_2 t_law_condition_text_1
  generalize f_law_text 48 = fe
  generalize TL.joinL (sepB b) (txL b cs) = Z at *
  generalize (txL b cs).map S = ys at *
  generalize (txL b cs).map encS = W at *
  generalize encCs cs = Cs at *
  generalize S (kwB b) = sk at *
  generalize S (sepB b) = ss at *
  generalize S ([32] ++ kwB b) = s1 at *
  generalize l_law_condition_text_1 (f_law_condition_text k) = lp at *
  simp [-gAdd_str, fnM_ap, q1, q2, h, lit_sp, a1, a2, j1, j2, j3]
mutual
theorem text_C (m : List Cell) : ∀ (c : Cn) (k : Nat), COk c → ht c < k → lv c * (ht c + 1) ≤ 1000 → f_law_condition_text k [encC c] m = some (.str (S (txC c)), m)
  | .cmp g l r, k, h, hk, hb => by
    obtain ⟨k, rfl⟩ : ∃ j, k = j + 1 := ⟨k - 1, by omega⟩
    exact (write_cmp k g l r h.1 h.2.1 h.2.2 m).2
  | .neg c, k, h, hk, hb => by
    have hht : ht (.neg c) = ht c + 1 := rfl
    have hlv : lv (.neg c) = lv c := rfl
    have hmul : lv c * (ht c + 1 + 1) = lv c * (ht c + 1) + lv c := Nat.mul_succ _ _
    rw [hht, hlv, hmul] at hb
    rw [hht] at hk
    obtain ⟨k, rfl⟩ : ∃ j, k = j + 1 := ⟨k - 1, by omega⟩
    have hl := txC_len c h
    exact text_neg k c (by omega) m (text_C m c k h (by omega) (by omega))
  | .many b cs, k, h, hk, hb => by
    have hht : ht (.many b cs) = hts cs + 1 := rfl
    have hlv : lv (.many b cs) = lvs cs := rfl
    have hmul : lvs cs * (hts cs + 1 + 1) = lvs cs * (hts cs + 1) + lvs cs := Nat.mul_succ _ _
    rw [hht, hlv, hmul] at hb
    rw [hht] at hk
    obtain ⟨k, rfl⟩ : ∃ j, k = j + 1 := ⟨k - 1, by omega⟩
    have h1 := txLs_len b cs h.2
    have h3 := lvs_len cs h.2
    have h4 := sepB_len b
    have h5 : (txL b cs).length * (sepB b).length ≤ (txL b cs).length * 5 := Nat.mul_le_mul_left _ h4
    rw [txL_len] at h5
    obtain ⟨y3, y4, e⟩ := text_L m cs b k h.2 (by omega) (by omega) [.tup (encCs cs)] (.val (.tup (encCs cs))) .emp .emp [] (by simp; omega)
    exact text_many k b cs (by rw [txL_len]; omega) m y3 y4 e
theorem text_L (m : List Cell) : ∀ (cs : CnL) (b : Bool) (k : Nat), COks cs → hts cs < k → lvs cs * (hts cs + 1) ≤ 1000 → ∀ (R : List M.D) (v1 x3 x4 : M.Slot) (acc : List M.D), acc.length + cs.len ≤ 9999 → ∃ y3 y4, M.forM (gNm 3) (l_law_condition_text_1 (f_law_condition_text k)) (encCs cs) ⟨[.val (.tup (.str (S (kwB b)) :: R)), v1, .own (.lst acc), x3, x4], m⟩ = some (.nx, ⟨[.val (.tup (.str (S (kwB b)) :: R)), v1, .own (.lst (acc ++ (txL b cs).map encS)), y3, y4], m⟩)
  | .nil, b, k, _, _, _, R, v1, x3, x4, acc, _ => ⟨x3, x4, by
    rw [txL_nil, show encCs .nil = [] from rfl, List.map_nil, List.append_nil]; rfl⟩
  | .cons c cs, b, k, h, hk, hb, R, v1, x3, x4, acc, ha => by
    have hht : hts (.cons c cs) = max (ht c) (hts cs) := rfl
    have hlv : lvs (.cons c cs) = lv c + lvs cs := rfl
    have hln : CnL.len (.cons c cs) = cs.len + 1 := rfl
    rw [hht, hlv] at hb
    rw [hht] at hk
    rw [hln] at ha
    have hmul : (lv c + lvs cs) * (max (ht c) (hts cs) + 1) = lv c * (max (ht c) (hts cs) + 1) + lvs cs * (max (ht c) (hts cs) + 1) := Nat.add_mul _ _ _
    have hm1 : lv c * (ht c + 1) ≤ lv c * (max (ht c) (hts cs) + 1) := Nat.mul_le_mul_left _ (by omega)
    have hm2 : lvs cs * (hts cs + 1) ≤ lvs cs * (max (ht c) (hts cs) + 1) := Nat.mul_le_mul_left _ (by omega)
    have hl := txC_len c h.1
    rw [hmul] at hb
    clear hmul
    have e1 := text_C m c k h.1 (by omega) (by omega)
    obtain ⟨z4, e3⟩ := text_step (f_law_condition_text k) (kwB b) (by cases b; exact .inr (.inr rfl); exact .inr (.inl rfl)) b (by cases b <;> decide) c R v1 x4 acc (by omega) (by omega) m e1
    obtain ⟨y3, y4, e2⟩ := text_L m cs b k h.2 (by omega) (by omega) R v1 (.val (encC c)) z4 (acc ++ [encS (wr b c (txC c))]) (by simp; omega)
    refine ⟨y3, y4, ?_⟩
    rw [txL_cons, encCs_cons, List.map_cons, show acc ++ encS (wr b c (txC c)) :: (txL b cs).map encS = acc ++ [encS (wr b c (txC c))] ++ (txL b cs).map encS by simp, ← e2, forM_cons]
    generalize M.forM (gNm 3) (l_law_condition_text_1 (f_law_condition_text k)) (encCs cs) = K
    generalize l_law_condition_text_1 (f_law_condition_text k) = lp at e3 ⊢
    simp [e3]
end
end Lk03



namespace Lk03
open PySem L2 M
/-! the words of a text -/
/-- what may stand behind -/
def Hs (r : List Nat) : Prop := ∀ d, r.head? = some d → d ∉ LL ∧ d ∉ DD ∧ d ≠ 61
theorem hs_nil : Hs [] := fun d h => by cases h
theorem hs_of {c : Nat} (h : c ∉ LL ∧ c ∉ DD ∧ c ≠ 61) (r : List Nat) : Hs (c :: r) := fun d hd => by cases hd; exact h
theorem Hs.sep {r : List Nat} (h : Hs r) (w : List Nat) : Sep w r := sep_by h
theorem gw_plusH {c : Int} {r : List Nat} {vs : List (List Nat)} (hg : Gw r (some vs)) (hr : Hs r) : Gw (plusT c ++ r) (some (plusW c ++ vs)) := by
  unfold plusT plusW
  by_cases h0 : c = 0
  · rw [if_pos h0, if_pos h0]; exact hg
  · rw [if_neg h0, if_neg h0]
    by_cases h1 : 0 < c
    · rw [if_pos h1, if_pos h1]
      have := Gw.sp (gw_wordS (tk_HH (c := 43) (by decide)) (sep_free (by decide) _) (.sp (gw_wordS (tk_nl c.toNat) (hr.sep _) hg)))
      simpa using this
    · rw [if_neg h1, if_neg h1]
      have := Gw.sp (gw_wordS (tk_HH (c := 45) (by decide)) (sep_free (by decide) _) (.sp (gw_wordS (tk_nl (-c).toNat) (hr.sep _) hg)))
      simpa using this
theorem hs_plus {c : Int} {r : List Nat} (hr : Hs r) : Hs (plusT c ++ r) := by
  unfold plusT
  split
  · exact hr
  · split
    · exact hs_of (by decide) _
    · exact hs_of (by decide) _
theorem gw_PH {p : Pe} (hp : PeOk p) {r : List Nat} {vs : List (List Nat)} (hg : Gw r (some vs)) (hr : Hs r) : Gw (txP p ++ r) (some (wdP p ++ vs)) := by
  cases p with
  | num n =>
    show Gw (numI n ++ r) (some ((if n < 0 then [[45], nl (-n).toNat] else [nl n.toNat]) ++ vs))
    unfold numI
    by_cases h : n < 0
    · rw [if_pos h, if_pos h]
      have := gw_wordS (tk_HH (c := 45) (by decide)) (sep_free (by decide) _) (gw_wordS (tk_nl (-n).toNat) (hr.sep _) hg)
      simpa using this
    · rw [if_neg h, if_neg h]
      exact gw_wordS (tk_nl n.toNat) (hr.sep _) hg
  | var s c =>
    obtain ⟨h1, h2⟩ := hp
    have hx := h1.spec
    show Gw (s ++ plusT c ++ r) (some (s :: plusW c ++ vs))
    rw [List.append_assoc]
    exact gw_wordS (tk_LL hx.2.2.2 hx.2.1) ((hs_plus hr).sep _) (gw_plusH hg hr)
theorem gw_txH {e : Ex} (h : ExOk e) {r : List Nat} {vs : List (List Nat)} (hg : Gw r (some vs)) (hr : Hs r) : Gw (tx e ++ r) (some (wd e ++ vs)) := by
  cases e with
  | pl p => exact gw_PH h hg hr
  | item s p c =>
    obtain ⟨h1, h2, h3⟩ := h
    have hx := h1.spec
    have g1 := gw_plusH (c := c) hg hr
    have g2 := gw_wordS (tk_HH (c := 93) (by decide)) (sep_free (by decide) (plusT c ++ r)) g1
    have g3 := gw_PH h2 g2 (hs_of (by decide) _)
    have g4 := gw_wordS (tk_HH (c := 91) (by decide)) (sep_free (by decide) _) g3
    have g5 := gw_wordS (tk_LL hx.2.2.2 hx.2.1) ((hs_of (c := 91) (by decide) _).sep _) g4
    have e1 : tx (.item s p c) ++ r = s ++ ([91] ++ (txP p ++ ([93] ++ (plusT c ++ r)))) := by
      show s ++ [91] ++ txP p ++ [93] ++ plusT c ++ r = _
      simp
    have e2 : wd (.item s p c) ++ vs = s :: [91] :: (wdP p ++ [93] :: (plusW c ++ vs)) := by
      show [s, [91]] ++ wdP p ++ [[93]] ++ plusW c ++ vs = _
      simp
    rw [e1, e2]
    exact g5
theorem hs32 (r : List Nat) : Hs ([32] ++ r) := hs_of (by decide) _
theorem hs41 (r : List Nat) : Hs ([41] ++ r) := hs_of (by decide) _
/-- its text gives its words, whatever stands behind -/
def TW (t : List Nat) (ws : List (List Nat)) : Prop := ∀ r vs, Hs r → Gw r (some vs) → Gw (t ++ r) (some (ws ++ vs))
theorem tw_wr {b : Bool} {c : Cn} (h : TW (txC c) (wdC c)) : TW (wr b c (txC c)) (pairsW (nd b c) (wdC c)) := by
  intro r vs hr hg
  unfold wr nd
  by_cases hn : need b c = true
  · rw [if_pos hn, if_pos hn]
    have g1 := gw_wordS (tk_HH (c := 41) (by decide)) (sep_free (by decide) r) hg
    have g2 := h _ _ (hs41 r) g1
    have g3 := gw_wordS (tk_HH (c := 40) (by decide)) (sep_free (by decide) _) g2
    unfold pairsW rep
    simpa using g3
  · rw [if_neg hn, if_neg hn]
    unfold pairsW rep
    simpa using h r vs hr hg
theorem tw_kw (b : Bool) {t : List Nat} {ws : List (List Nat)} (h : TW t ws) : TW (sepB b ++ t) ([kwB b] ++ ws) := by
  intro r vs hr hg
  have g1 := h r vs hr hg
  have g2 := gw_wordS (w := kwB b) (by cases b; exact (g_kw (.inr (.inr (.inl rfl)))).1; exact (g_kw (.inr (.inl rfl))).1) ((hs32 (t ++ r)).sep _) (.sp g1)
  have g3 := Gw.sp g2
  unfold sepB
  simpa using g3
theorem tw_app {t1 t2 : List Nat} {w1 w2 : List (List Nat)} (h1 : TW t1 w1) (h2 : TW t2 w2) (hh : ∀ r, Hs (t2 ++ r)) : TW (t1 ++ t2) (w1 ++ w2) := by
  intro r vs hr hg
  rw [List.append_assoc, List.append_assoc]
  exact h1 _ _ (hh r) (h2 r vs hr hg)
mutual
theorem tw_C : ∀ c : Cn, COk c → TW (txC c) (wdC c)
  | .cmp g l r, h => by
    intro s vs hs hg
    have g1 := gw_txH h.2.2 hg hs
    have g2 := gw_wordS (g_sg g h.1).1 ((hs32 (tx r ++ s)).sep _) (.sp g1)
    have g3 := gw_txH h.2.1 (.sp g2) (hs32 _)
    rw [txC_cmp]
    unfold wdC
    simpa using g3
  | .neg c, h => by
    intro s vs hs hg
    have g1 := tw_wr (b := true) (tw_C c h) s vs hs hg
    have g2 := gw_wordS (g_kw (w := NOT) (.inl rfl)).1 ((hs32 _).sep _) (.sp g1)
    rw [txC_neg]
    unfold wdC
    simpa using g2
  | .many b cs, h => by
    rw [txC_many]
    unfold wdC
    exact tw_L cs b h.2 (by have := h.1; omega)
theorem tw_L : ∀ (cs : CnL) (b : Bool), COks cs → 1 ≤ cs.len → TW (TL.joinL (sepB b) (txL b cs)) (wdL b cs)
  | .nil, b, _, hl => absurd hl (by show ¬ 1 ≤ 0; omega)
  | .cons c .nil, b, h, _ => by
    rw [txL_cons, txL_nil, wdL_one]
    exact tw_wr (tw_C c h.1)
  | .cons c (.cons c2 cs), b, h, _ => by
    rw [txL_cons, wdL_cons, txL_cons]
    show TW (wr b c (txC c) ++ (sepB b ++ TL.joinL (sepB b) (wr b c2 (txC c2) :: txL b cs))) _
    rw [← txL_cons]
    refine tw_app (tw_wr (tw_C c h.1)) (tw_kw b (tw_L (.cons c2 cs) b h.2 (by show 1 ≤ cs.len + 1; omega))) fun r => ?_
    unfold sepB
    rw [List.append_assoc, List.append_assoc, List.append_assoc]
    exact hs32 _
end
theorem gw_C {c : Cn} (h : COk c) : Gw (txC c) (some (wdC c)) := by
  have := tw_C c h [] [] hs_nil .nil
  rw [List.append_nil, List.append_nil] at this
  exact this
/-! reading a text -/
theorem read_ok {l : List Nat} (hl : l.length ≤ 999990) {o : Option (List (List Nat))} (hg : Gw l o) (ho : ∀ ws, o = some ws → WsOk ws) (m : List Cell) : f_read_condition [.str (S l)] m = some (match o with
    | none => .non
    | some ws => oD (rdC ws), m) := by
  have e1 := split_ok hl m hg
  unfold f_read_condition b_read_condition
  cases o with
  | none =>
    unfold encW at e1
    simp [fnM_ap, e1]
  | some ws =>
    have e2 := (cond_of_ok (ho ws rfl) m).1
    unfold encW at e1
    dsimp only at e1 ⊢
    generalize ws.map encS = W at *
    generalize oD (rdC ws) = R at *
    simp [fnM_ap, e1, e2]
theorem ws_of {ws : List (List Nat)} (h : ∀ w ∈ ws, GWd w) (hl : ws.length ≤ 5000) : WsOk ws := ⟨by omega, fun w hw => ⟨(h w hw).2.1, (h w hw).2.2⟩⟩
/-! the same -/
def Gs : Nat → M.D → Prop
  | 0, _ => False
  | _ + 1, .int _ => True
  | _ + 1, .str z => PyData.strOk z = true
  | _ + 1, .non => True
  | n + 1, .tup ds => ds.length ≤ 100000 ∧ ∀ d ∈ ds, Gs n d
  | _ + 1, _ => False
theorem same_tupL (ds : List M.D) (hl : ds.length ≤ 100000) (k : Nat) (m : List Cell) (h : ∀ d ∈ ds, f_law_same k [d, d] m = some (.bl true, m)) : f_law_same (k + 1) [.tup ds, .tup ds] m = some (.bl true, m) := by
  obtain ⟨y2, e⟩ := same_loop ds (f_law_same k) m h ds.length 0 .emp (by omega)
  have r1 : iRg1 (eCallV gLen 1) ⟨[.val (.tup ds), .val (.tup ds), .emp], m⟩ = some ((List.range' 0 ds.length).map (fun j : Nat => M.D.int (j : Int)), ⟨[.val (.tup ds), .val (.tup ds), .emp], m⟩) := by
    have := iRg1_step (f := eCallV gLen 1) (S := ⟨[.val (.tup ds), .val (.tup ds), .emp], m⟩) (S' := ⟨[.val (.tup ds), .val (.tup ds), .emp], m⟩) (n := ds.length) (by simp) (by omega)
    rw [this, List.range_eq_range']
  generalize (List.range' 0 ds.length).map (fun j : Nat => M.D.int (j : Int)) = L at e r1
  show fnM 3 (b_law_same (f_law_same k)) _ _ = _
  generalize f_law_same k = rec at e
  unfold b_law_same
  simp [-iRg1_ap, fnM_ap, r1, e]
theorem same_gs (m : List Cell) : ∀ (n k : Nat) (d : M.D), n ≤ k → Gs n d → f_law_same k [d, d] m = some (.bl true, m)
  | 0, k, d, _, h => by cases d <;> exact absurd h (by simp [Gs])
  | n + 1, k, d, hk, h => by
    obtain ⟨k, rfl⟩ : ∃ j, k = j + 1 := ⟨k - 1, by omega⟩
    cases d with
    | int i => exact same_int i k m
    | str z => exact same_str h k m
    | non => exact same_non k m
    | tup ds => exact same_tupL ds h.1 k m fun d hd => same_gs m n k d (by omega) (h.2 d hd)
    | bl b => exact absurd h (by simp [Gs])
    | lst ds => exact absurd h (by simp [Gs])
    | dct ds => exact absurd h (by simp [Gs])
    | sc ds => exact absurd h (by simp [Gs])
    | ref j => exact absurd h (by simp [Gs])
theorem Gs.up : ∀ {n : Nat} {d : M.D}, Gs n d → Gs (n + 1) d
  | 0, d, h => by cases d <;> exact absurd h (by simp [Gs])
  | n + 1, d, h => by
    cases d with
    | int i => trivial
    | str z => exact h
    | non => trivial
    | tup ds => exact ⟨h.1, fun x hx => (h.2 x hx).up⟩
    | bl b => exact absurd h (by simp [Gs])
    | lst ds => exact absurd h (by simp [Gs])
    | dct ds => exact absurd h (by simp [Gs])
    | sc ds => exact absurd h (by simp [Gs])
    | ref j => exact absurd h (by simp [Gs])
theorem Gs.le {n k : Nat} {d : M.D} (h : Gs n d) (hk : n ≤ k) : Gs k d := by
  induction hk with
  | refl => exact h
  | step _ ih => exact ih.up
theorem gs_name {w : List Nat} (h : isName w = true) (n : Nat) : Gs (n + 1) (.str (S w)) := (ok_LL (NmOk.spec h).2.2.2).so
theorem paR_gs {ws : List (List Nat)} {a : Nat} {p : Pe} {b : Nat} (h : paR ws a = some (p, b)) : Gs 2 (encP p) := by
  unfold paR at h
  split at h
  · cases h
    exact ⟨by simp, fun d hd => by
      simp only [List.mem_cons, List.not_mem_nil, or_false] at hd
      rcases hd with rfl | rfl
      · exact so_num
      · trivial⟩
  · split at h
    · rename_i q
      split at h
      · cases h
      · cases h
        exact ⟨by simp, fun d hd => by
          simp only [List.mem_cons, List.not_mem_nil, or_false] at hd
          rcases hd with rfl | rfl | rfl
          · exact so_var
          · exact gs_name q 0
          · trivial⟩
    · cases h
theorem exR_gs {ws : List (List Nat)} {a : Nat} {e : Ex} {b : Nat} (h : exR ws a = some (e, b)) : Gs 3 (encE e) := by
  unfold exR at h
  split at h
  · rename_i q
    split at h
    · cases h
    · rename_i hp
      split at h
      · split at h
        · cases h
        · cases h
          exact ⟨by simp, fun d hd => by
            simp only [List.mem_cons, List.not_mem_nil, or_false] at hd
            rcases hd with rfl | rfl | rfl | rfl
            · exact so_item
            · exact gs_name q.1 1
            · exact paR_gs hp
            · trivial⟩
      · cases h
  · split at h
    · cases h
    · rename_i hp
      cases h
      exact (paR_gs hp).up
theorem cmpR_gs {ws : List (List Nat)} {a : Nat} {d : M.D} {b : Nat} (h : cmpR ws a = some (d, b)) : Gs 4 d := by
  unfold cmpR at h
  split at h
  · cases h
  · rename_i h1
    split at h
    · rename_i hg
      split at h
      · cases h
      · rename_i h2
        cases h
        exact ⟨by simp, fun d hd => by
          simp only [List.mem_cons, List.not_mem_nil, or_false] at hd
          rcases hd with rfl | rfl | rfl | rfl
          · exact so_cmp
          · exact (g_sg _ hg).2.1.so
          · exact exR_gs h1
          · exact exR_gs h2⟩
    · cases h
def GsR (n : Nat) (rd : Nat → Option (M.D × Nat)) : Prop := ∀ a d b, rd a = some (d, b) → Gs n d
theorem seqT_gs {ws : List (List Nat)} {n : Nat} {rd : Nat → Option (M.D × Nat)} (hr : GsR n rd) (kw : List Nat) : ∀ (k b : Nat) (ds : List M.D) (z : Nat), seqT ws rd kw k b = some (ds, z) → (∀ d ∈ ds, Gs n d) ∧ ds.length ≤ k
  | 0, b, ds, z, h => by
    unfold seqT at h
    split at h
    · cases h
    · cases h; exact ⟨fun d hd => by simp at hd, by simp⟩
  | k + 1, b, ds, z, h => by
    unfold seqT at h
    split at h
    · split at h
      · cases h
      · rename_i d e he
        obtain ⟨⟨ds', z'⟩, h1, h2⟩ := Option.map_eq_some_iff.mp h
        cases h2
        have g := seqT_gs hr kw k e _ _ h1
        refine ⟨fun x hx => ?_, by simp; omega⟩
        rcases List.mem_cons.mp hx with rfl | hx
        · exact hr _ _ _ he
        · exact g.1 x hx
    · cases h; exact ⟨fun d hd => by simp at hd, by simp⟩
theorem joS_gs {ws : List (List Nat)} (hw : WsOk ws) {n : Nat} {rd : Nat → Option (M.D × Nat)} (hr : GsR n rd) {kw : List Nat} (hk : Ok kw) : GsR (n + 2) (joS ws rd kw) := by
  intro a d b h
  unfold joS seqR at h
  obtain ⟨⟨ds, z⟩, h1, h2⟩ := Option.map_eq_some_iff.mp h
  cases h2
  split at h1
  · cases h1
  · rename_i d' b' he
    obtain ⟨⟨ds', z'⟩, h3, h4⟩ := Option.map_eq_some_iff.mp h1
    cases h4
    have g := seqT_gs hr kw _ _ _ _ h3
    have g0 := hr _ _ _ he
    have hl := hw.1
    show Gs (n + 2) (joinD kw (d' :: ds'))
    unfold joinD
    split
    · exact g0.up.up
    · refine ⟨by simp, fun x hx => ?_⟩
      simp only [List.mem_cons, List.not_mem_nil, or_false] at hx
      rcases hx with rfl | rfl
      · exact hk.so
      · refine ⟨by simp; omega, fun y hy => ?_⟩
        rcases List.mem_cons.mp hy with rfl | hy
        · exact g0
        · exact g.1 y hy
theorem partR_gs {ws : List (List Nat)} (hw : WsOk ws) : ∀ q, GsR (4 + 4 * q) (partR ws q)
  | 0 => by
    intro a d b h
    unfold partR at h
    split at h
    · cases h
    · exact cmpR_gs h
  | q + 1 => by
    have ih := partR_gs hw q
    intro a d b h
    unfold partR at h
    split at h
    · split at h
      · cases h
      · rename_i he
        cases h
        have g := ih _ _ _ he
        have : Gs (4 + 4 * q + 1) (.tup [.str (S NOT), _]) := ⟨by simp, fun x hx => by
          simp only [List.mem_cons, List.not_mem_nil, or_false] at hx
          rcases hx with rfl | rfl
          · exact Gs.le (n := 1) (show PyData.strOk (S NOT) = true from ok_NOT.so) (by omega)
          · exact g⟩
        exact this.le (by omega)
    · split at h
      · split at h
        · cases h
        · rename_i he
          split at h
          · cases h
            exact (joS_gs hw (joS_gs hw ih ok_AND) ok_ORR _ _ _ he).le (by omega)
          · cases h
      · exact (cmpR_gs h).le (by omega)
theorem rdC_gs {ws : List (List Nat)} (hw : WsOk ws) : Gs 40 (oD (rdC ws)) := by
  unfold rdC
  cases h : topR ws with
  | none => trivial
  | some db =>
    obtain ⟨d, b⟩ := db
    have g := joS_gs hw (joS_gs hw (partR_gs hw 8) ok_AND) ok_ORR _ _ _ h
    unfold finO
    dsimp only
    split
    · exact g.le (by omega)
    · trivial
theorem same_rd {ws : List (List Nat)} (hw : WsOk ws) (n : Nat) (hn : 40 ≤ n) (m : List Cell) : f_law_same n [oD (rdC ws), oD (rdC ws)] m = some (.bl true, m) := same_gs m 40 n _ hn (rdC_gs hw)
/-! a sign of no word -/
theorem take_run : ∀ (P l : List Nat), ∀ y ∈ l.take (run P l), y ∈ P := fun P l => by
  induction l with
  | nil => intro y hy; simp at hy
  | cons d l ih2 =>
    intro y hy
    by_cases q : d ∈ P
    · rw [run_cons _ q, List.take_succ_cons] at hy
      rcases List.mem_cons.mp hy with rfl | hy
      · exact q
      · exact ih2 y hy
    · rw [run_not _ q] at hy; simp at hy
theorem gw_far {l : List Nat} {o : Option (List (List Nat))} (h : Gw l o) {x : Nat} (hx : x ∉ LL ∧ x ∉ DD ∧ x ∉ HH ∧ x ≠ 32) (hG : ∀ w ∈ GG, x ∉ w) : x ∈ l → o = none := by
  induction h with
  | nil => intro h; simp at h
  | sp _ ih =>
    intro h1
    refine ih ?_
    rcases List.mem_cons.mp h1 with e | e
    · exact absurd e hx.2.2.2
    · exact e
  | bad => intro _; rfl
  | @wd c r n o hc ht hp hle _ ih =>
    intro h1
    have hd : x ∈ (c :: r).drop n := by
      rw [← List.take_append_drop n (c :: r)] at h1
      rcases List.mem_append.mp h1 with z | z
      · exfalso
        rw [tok_cons] at ht
        split at ht
        · cases ht
          exact hx.1 (take_run _ _ _ z)
        · split at ht
          · cases ht
            exact hx.2.1 (take_run _ _ _ z)
          · split at ht
            · rename_i q
              cases ht
              exact hG _ q z
            · split at ht
              · rename_i q
                cases ht
                simp at z
                subst z
                exact hx.2.2.1 q
              · cases ht
      · exact z
    rw [ih hd]; rfl
end Lk03



namespace Lk03
open PySem L2 M
/-! a chain of nots -/
def negN : Nat → Cn → Cn
  | 0, c => c
  | n + 1, c => negN n (.neg c)
theorem negN_ok : ∀ (n : Nat) {c : Cn}, COk c → COk (negN n c)
  | 0, _, h => h
  | n + 1, c, h => negN_ok n (c := .neg c) h
theorem pairs0 (ws : List (List Nat)) : pairsW 0 ws = ws := by unfold pairsW rep; simp
theorem dr_negN : ∀ (n : Nat) {c : Cn} {ws : List (List Nat)} {dep : Nat}, Dr c 0 ws dep → need true c = false → Dr (negN n c) 0 (rep n NOT ++ ws) (n + dep)
  | 0, c, ws, dep, h, _ => by
    rw [Nat.zero_add]; exact h
  | n + 1, c, ws, dep, h, hn => by
    have h1 := Dr.neg 0 h (fun z => by rw [hn] at z; cases z)
    rw [pairs0, Nat.zero_add] at h1
    have h2 := dr_negN n h1 rfl
    have e : rep (n + 1) NOT ++ ws = rep n NOT ++ ([NOT] ++ ws) := by
      unfold rep
      rw [List.replicate_succ', List.append_assoc]
    rw [e, show n + 1 + dep = n + (1 + dep) by omega]
    exact h2
def notT (n : Nat) : List Nat := (List.replicate n (NOT ++ [32])).flatten
theorem gw_notT : ∀ (n : Nat) {t : List Nat} {ws : List (List Nat)}, Gw t (some ws) → Gw (notT n ++ t) (some (rep n NOT ++ ws))
  | 0, t, ws, h => h
  | n + 1, t, ws, h => by
    have g1 := gw_wordS (g_kw (w := NOT) (.inl rfl)).1 ((hs32 (notT n ++ t)).sep _) (.sp (gw_notT n h))
    unfold notT rep at g1 ⊢
    rw [List.replicate_succ, List.replicate_succ, List.flatten_cons]
    simpa using g1
theorem mul_not : ∀ n ∈ List.range 10, Txt.mul (S (NOT ++ [32])) ((n : Nat) : Int) = S (notT n) := by decide +kernel
theorem notT_len : ∀ n : Nat, (notT n).length = 4 * n
  | 0 => rfl
  | n + 1 => by
    have := notT_len n
    unfold notT at this ⊢
    rw [List.replicate_succ, List.flatten_cons, List.length_append, this]
    show 4 + 4 * n = _
    omega
theorem joS_none {ws : List (List Nat)} {rd : Nat → Option (M.D × Nat)} {kw : List Nat} {a : Nat} (h : rd a = none) : joS ws rd kw a = none := by
  unfold joS seqR; rw [h]; rfl
theorem gMul4_not {n : Nat} (h : n < 10) : gMul4 (.str (S (NOT ++ [32]))) (.int (n : Int)) = some (.str (S (notT n))) := by
  rw [gMul4_str, gMul3_str, if_pos ⟨by decide, by omega, by omega⟩, mul_not n (List.mem_range.mpr h)]
theorem chain_loop (M0 : List Cell) (x0 x2 x3 x4 x5 x6 x7 x8 x9 x10 x13 : M.Slot) : ∀ (L : List M.D) (c : Cn) (x11 : M.Slot), ∃ y11, M.forM (gNm 11) l_law_2 L ⟨[x0, .val (.ref 0), x2, x3, x4, x5, x6, x7, x8, x9, x10, x11, .val (encC c), x13], M0⟩ = some (.nx, ⟨[x0, .val (.ref 0), x2, x3, x4, x5, x6, x7, x8, x9, x10, y11, .val (encC (negN L.length c)), x13], M0⟩) := by
  intro L
  induction L with
  | nil => intro c x11; exact ⟨x11, rfl⟩
  | cons a L ih =>
    intro c x11
    obtain ⟨y11, e⟩ := ih (.neg c) (.val a)
    refine ⟨y11, ?_⟩
    rw [List.length_cons, show negN (L.length + 1) c = negN L.length (.neg c) from rfl, ← e, forM_cons, encC_neg]
    generalize M.forM (gNm 11) l_law_2 L = K
    generalize encC c = C
    unfold l_law_2
    simp [lit_not]
theorem rdC_nil : rdC [] = none := by
  have e : wA [] 0 = [] := rfl
  have e1 : exR [] 0 = none := by
    unfold exR paR sgR
    simp [e, isNum_nil, isName_nil]
  have e2 : cmpR [] 0 = none := by unfold cmpR; rw [e1]
  have e3 : partR [] 8 0 = none := by
    unfold partR
    rw [e, if_neg (by decide), if_neg (by decide), e2]
  have e5 : topR [] = none := by
    unfold topR
    exact joS_none (joS_none e3)
  unfold rdC
  rw [e5]; rfl
theorem empty_ok (m : List Cell) : f_read_condition [.str (S [])] m = some (.non, m) := by
  have e := read_ok (by simp : ([] : List Nat).length ≤ 999990) Gw.nil (fun ws h => by cases h; exact ⟨by simp, by simp⟩) m
  dsimp only at e
  rw [rdC_nil] at e
  exact e
section
variable {c : Cn} (hc : COk c) (hl : lv c * (ht c + 1) ≤ 48)
include hc hl
theorem law_t1 (n : Nat) (h4 : 4 ≤ n) (h9 : n ≤ 9) (M0 : List Cell) (x0 x4 x5 x6 x7 x8 x9 x10 x11 : M.Slot) : ∃ S0, t_law_1 ⟨[x0, .val (.ref 0), .val (encC c), .val (.str (S (txC c))), x4, x5, x6, x7, x8, x9, x10, x11, .val (encC (negN n c)), .val (.int (n : Nat))], M0⟩ = some (.rt (.bl true), S0) := by
  have e4 := empty_ok M0
  have le := lit_e
  cases c with
  | neg c =>
    have q1 := lit_cmp_ne NOT (by decide) ok_NOT
    refine ⟨⟨[x0, .val (.ref 0), .val (encC (.neg c)), .val (.str (S (txC (.neg c)))), x4, x5, x6, x7, x8, x9, x10, x11, .val (encC (negN n (.neg c))), .val (.int (n : Nat))], M0⟩, ?_⟩
    rw [encC_neg]
    generalize encC (negN n (.neg c)) = CC
    generalize S (txC (.neg c)) = TT
    generalize encC c = C
    generalize S NOT = sn at *
    unfold t_law_1
    simp [q1, le, e4]
  | many b cs =>
    have q1 := kw_cmp b
    refine ⟨⟨[x0, .val (.ref 0), .val (encC (.many b cs)), .val (.str (S (txC (.many b cs)))), x4, x5, x6, x7, x8, x9, x10, x11, .val (encC (negN n (.many b cs))), .val (.int (n : Nat))], M0⟩, ?_⟩
    rw [encC_many]
    generalize encC (negN n (.many b cs)) = CC
    generalize S (txC (.many b cs)) = TT
    generalize encCs cs = C
    generalize S (kwB b) = sn at *
    unfold t_law_1
    simp [q1, le, e4]
  | cmp g l r =>
    have g1 := gw_notT n (gw_C hc)
    have tl := txC_len _ hc
    have ew : wdC (.cmp g l r) = wd l ++ [g] ++ wd r := by unfold wdC; rfl
    have dr : Dr (.cmp g l r) 0 (wdC (.cmp g l r)) 0 := by
      have := Dr.cmp (g := g) (l := l) (r := r) 0
      rw [pairs0] at this
      rw [ew]; exact this
    have dn := dr_negN n dr rfl
    have hr := rdC_dr (negN_ok n hc) dn
    rw [Nat.add_zero] at hr
    have wl := wd_len l
    have wr' := wd_len r
    have ww : WsOk (rep n NOT ++ wdC (.cmp g l r)) := by
      refine ws_of (fun w hw => ?_) ?_
      · rcases List.mem_append.mp hw with hw | hw
        · unfold rep at hw
          rw [List.eq_of_mem_replicate hw]; exact g_kw (.inl rfl)
        · rw [ew] at hw
          simp only [List.mem_append, List.mem_cons, List.not_mem_nil, or_false] at hw
          rcases hw with (hw | hw) | hw
          · exact gwd_wd hc.2.1 w hw
          · rw [hw]; exact g_sg g hc.1
          · exact gwd_wd hc.2.2 w hw
      · rw [List.length_append, rep_len, ew]; simp; omega
    have nl' := notT_len n
    have e1 := read_ok (by rw [List.length_append]; omega) g1 (fun ws h => by cases h; exact ww) M0
    dsimp only at e1
    have e2 := same_rd ww 48 (by omega) M0
    have m1 := gMul4_not (n := n) (by omega)
    have a1 := addS (a := notT n) (b := txC (.cmp g l r)) (by omega)
    have q1 : eqD (.str "cmp") (.str "cmp") = some true := by rw [lit_cmp, eqS ok_CMP ok_CMP]; rfl
    rw [hr] at e1 e2
    refine ⟨if n ≤ 8 then ⟨[x0, .val (.ref 0), .val (encC (.cmp g l r)), .val (.str (S (txC (.cmp g l r)))), x4, x5, .val (encC (negN n (.cmp g l r))), x7, x8, x9, x10, x11, .val (encC (negN n (.cmp g l r))), .val (.int (n : Nat))], M0⟩ else ⟨[x0, .val (.ref 0), .val (encC (.cmp g l r)), .val (.str (S (txC (.cmp g l r)))), x4, x5, .val .non, x7, x8, x9, x10, x11, .val (encC (negN n (.cmp g l r))), .val (.int (n : Nat))], M0⟩, ?_⟩
    rw [encC_cmp]
    generalize S (notT n ++ txC (.cmp g l r)) = Z at *
    generalize S (txC (.cmp g l r)) = Y at *
    generalize S (notT n) = X at *
    generalize encC (negN n (.cmp g l r)) = C at *
    generalize encE l = E1
    generalize encE r = E2
    unfold t_law_1
    generalize f_law_same 48 = fs at *
    by_cases h8 : n ≤ 8
    · rw [if_pos h8] at e1 e2 ⊢
      dsimp only [oD] at e1 e2
      simp [-gAdd_str, q1, show ¬ (8 : Int) < n by omega, lit_nots, m1, a1, e1, e2, le, e4]
    · rw [if_neg h8] at e1 e2 ⊢
      dsimp only [oD] at e1 e2
      simp [-gAdd_str, q1, show (8 : Int) < n by omega, lit_nots, m1, a1, e1, e2, le, e4]
end
end Lk03



namespace Lk03
open PySem L2 M
/-! the texts are plain -/
theorem ok_app {a b : List Nat} (ha : Ok a) (hb : Ok b) : Ok (a ++ b) := fun c hc => (List.mem_append.mp hc).elim (ha c) (hb c)
theorem ok_nl (n : Nat) : Ok (nl n) := ok_DD (nl_DD n)
theorem ok_plusT (c : Int) : Ok (plusT c) := by
  unfold plusT
  split
  · intro c hc; simp at hc
  · split
    · exact ok_app (ok_small (by decide)) (ok_nl _)
    · exact ok_app (ok_small (by decide)) (ok_nl _)
theorem ok_txP {p : Pe} (h : PeOk p) : Ok (txP p) := by
  cases p with
  | num n =>
    show Ok (numI n)
    unfold numI
    split
    · exact ok_app (a := [45]) (ok_small (by decide)) (ok_nl _)
    · exact ok_nl _
  | var s c => exact ok_app (ok_LL h.1.spec.2.2.2) (ok_plusT c)
theorem ok_tx {e : Ex} (h : ExOk e) : Ok (tx e) := by
  cases e with
  | pl p => exact ok_txP h
  | item s p c => exact ok_app (ok_app (ok_app (ok_app (ok_LL h.1.spec.2.2.2) (ok_small (by decide))) (ok_txP h.2.1)) (ok_small (by decide))) (ok_plusT c)
theorem ok_joinL {s : List Nat} (hs : Ok s) : ∀ ys : List (List Nat), (∀ y ∈ ys, Ok y) → Ok (TL.joinL s ys)
  | [], _ => by intro c hc; simp [TL.joinL] at hc
  | [p], h => h p (by simp)
  | p :: q :: r, h => ok_app (h p (by simp)) (ok_app hs (ok_joinL hs (q :: r) fun y hy => h y (List.mem_cons_of_mem _ hy)))
theorem ok_wr {b : Bool} {c : Cn} {t : List Nat} (h : Ok t) : Ok (wr b c t) := by
  unfold wr
  split
  · exact ok_app (ok_app (ok_small (by decide)) h) (ok_small (by decide))
  · exact h
mutual
theorem ok_txC : ∀ c : Cn, COk c → Ok (txC c)
  | .cmp g l r, h => by
    rw [txC_cmp]
    exact ok_app (ok_app (ok_app (ok_app (ok_tx h.2.1) (ok_small (by decide))) (g_sg g h.1).2.1) (ok_small (by decide))) (ok_tx h.2.2)
  | .neg c, h => by
    rw [txC_neg]
    exact ok_app (ok_app ok_NOT (ok_small (by decide))) (ok_wr (ok_txC c h))
  | .many b cs, h => by
    rw [txC_many]
    refine ok_joinL ?_ _ (ok_txL b cs h.2)
    unfold sepB
    exact ok_app (ok_app (ok_small (by decide)) (ok_kw b)) (ok_small (by decide))
theorem ok_txL : ∀ (b : Bool) (cs : CnL), COks cs → ∀ y ∈ txL b cs, Ok y
  | b, .nil, _ => by rw [txL_nil]; intro y hy; simp at hy
  | b, .cons c cs, h => by
    rw [txL_cons]
    intro y hy
    rcases List.mem_cons.mp hy with rfl | hy
    · exact ok_wr (ok_txC c h.1)
    · exact ok_txL b cs h.2 y hy
end
theorem sl_to {l : List Nat} (h : l.length ≤ 1000000) {a : Nat} (ha : a ≤ l.length) : gSl3 (.str (S l)) none (some (a : Int)) = some (.str (S (l.take a))) := by
  have e : gSl3 (.str (S l)) none (some (a : Int)) = if (S l).length ≤ LIM then some (.str (cutS (S l) none (some (a : Int)))) else none := rfl
  rw [e, if_pos (by simpa using h)]
  unfold cutS
  rw [HT.sIx_nat, HT.sIx_none, S_cps, S_len, Nat.min_eq_left ha]
  rfl
theorem sl_from {l : List Nat} (h : l.length ≤ 1000000) {a : Nat} (ha : a ≤ l.length) : gSl3 (.str (S l)) (some (a : Int)) none = some (.str (S (l.drop a))) := by
  have e : gSl3 (.str (S l)) (some (a : Int)) none = if (S l).length ≤ LIM then some (.str (cutS (S l) (some (a : Int)) none)) else none := rfl
  rw [e, if_pos (by simpa using h)]
  unfold cutS
  rw [HT.sIx_nat, HT.sIx_none, S_cps, S_len, Nat.min_eq_left ha]
  congr 2
  show S _ = S _
  rw [S_inj]
  exact List.take_of_length_le (by simp)
def Fo (x : Nat) : Prop := (x ∉ LL ∧ x ∉ DD ∧ x ∉ HH ∧ x ≠ 32) ∧ ∀ w ∈ GG, x ∉ w
theorem foreign_at {v : Int} (h0 : 0 ≤ v) (h1 : v < 7) : ∃ x, atI [M.D.str "A", .str "_", .str ".", .str "\n", .str "\t", .str "*", .str "{"] v = some (.str (S [x])) ∧ Fo x := by
  have hl : v.toNat < 7 := by omega
  have e : ([M.D.str "A", .str "_", .str ".", .str "\n", .str "\t", .str "*", .str "{"] : List M.D) = [65, 95, 46, 10, 9, 42, 123].map fun x : Nat => .str (S [x]) := by
    have : (["A", "_", ".", "\n", "\t", "*", "{"] : List Str) = [65, 95, 46, 10, 9, 42, 123].map fun x : Nat => S [x] := by decide +kernel
    show List.map M.D.str ["A", "_", ".", "\n", "\t", "*", "{"] = _
    rw [this]; rfl
  have hf : ∀ x ∈ [65, 95, 46, 10, 9, 42, 123], Fo x := by unfold Fo; decide
  rw [e, atI_pos h0 (by simpa using h1)]
  refine ⟨[65, 95, 46, 10, 9, 42, 123][v.toNat]'(by simpa using hl), ?_, hf _ (List.getElem_mem _)⟩
  rw [List.getElem?_map, List.getElem?_eq_getElem (by simpa using hl)]; rfl
/-! spoilt words -/
theorem step_aux (q1 q2 q3 q4 fs : FF) (W V : List M.D) (R : M.D) (SU : Str) (H1 H2 H3 : List Cell) (z : Int)
  (hlen : gLen (.lst V) = some (.int z)) (e5 : fs [R, R] H3 = some (.bl true, H3)) (e3 : q1 [.lst V] H3 = some (R, H3)) (e4 : q2 [.str SU] H3 = some (R, H3)) (e2 : q3 [.ref 0, .lst V] H2 = some (.str SU, H3)) (e1 : q4 [.ref 0, .lst W] H1 = some (.lst V, H2)) (x0 x2 x3 x4 x5 x6 x7 x8 x9 x11 x12 x13 : M.Slot) : sSeq (sAsg (eFn 2 q4 (aCons (eVar 1) (aCons (eVar 10) aNil))) (gNm 10))
      (sSeq
        (sIf
          (bNot
            (bTru
              (eFn 2 fs
                (aCons (eFn 1 q2 (aCons (eFn 2 q3 (aCons (eVar 1) (aCons (eVar 10) aNil))) aNil))
                  (aCons (eFn 1 q1 (aCons (eVar 10) aNil)) aNil)))))
          (sRet (eC (D.bl false))) sNil)
        (sIf (bOf (eOp gEq (eCallV gLen 10) (eC (D.int 0)))) (sRet (eC (D.bl true))) sNil)) ⟨[x0, .val (.ref 0), x2, x3, x4, x5, x6, x7, x8, x9, .val (.lst W), x11, x12, x13], H1⟩ = some (if z = 0 then Fl.rt (D.bl true) else Fl.nx, ⟨[x0, .val (.ref 0), x2, x3, x4, x5, x6, x7, x8, x9, .val (.lst V), x11, x12, x13], H3⟩) := by
  by_cases c : z = 0
  · rw [if_pos c]
    rw [c] at hlen
    simp [-gLen_lst, e1, e3, e2, e4, e5, hlen]
  · rw [if_neg c]
    simp [-gLen_lst, e1, e3, e2, e4, e5, hlen, c]
theorem step_ok (ds : List Int) (p : Int) (hp : 0 ≤ p) {ws : List (List Nat)} (hw : ∀ w ∈ ws, GWd w) (hl : ws.length ≤ 3800) (hl0 : 0 < ws.length) (x0 x2 x3 x4 x5 x6 x7 x8 x9 x11 x12 x13 : M.Slot) :
    ∃ (vs : List (List Nat)) (p' : Int), 0 ≤ p' ∧ (∀ w ∈ vs, GWd w) ∧ vs.length ≤ ws.length + 1 ∧ l_law_1 ⟨[x0, .val (.ref 0), x2, x3, x4, x5, x6, x7, x8, x9, .val (.lst (ws.map encS)), x11, x12, x13], [Hd ds p]⟩ = some (if vs.length = 0 then .rt (.bl true) else .nx, ⟨[x0, .val (.ref 0), x2, x3, x4, x5, x6, x7, x8, x9, .val (.lst (vs.map encS)), x11, x12, x13], [Hd ds p']⟩) := by
  obtain ⟨vs, p1, hp1, hv, hvl, e1⟩ := spoilt_ok ds p hp [] hw (by omega) hl0
  obtain ⟨U, p2, hp2, g1, g2, e2⟩ := spaced_ok ds p1 hp1 [] hv (by omega)
  have wv := ws_of hv (by omega)
  have e3 := (cond_of_ok wv [Hd ds p2]).2
  have e4 := read_ok (by omega) g1 (fun ws e => by cases e; exact wv) [Hd ds p2]
  dsimp only at e4
  have e5 := same_rd wv 48 (by omega) [Hd ds p2]
  have hlen : gLen (.lst (vs.map encS)) = some (.int (vs.length : Int)) := by rw [gLen_lst, len_W wv]
  have hz : (if (vs.length : Int) = 0 then Fl.rt (M.D.bl true) else Fl.nx) = if vs.length = 0 then Fl.rt (M.D.bl true) else Fl.nx := by
    by_cases c : vs.length = 0
    · rw [if_pos c, if_pos (by omega)]
    · rw [if_neg c, if_neg (by omega)]
  have e6 := step_aux _ _ _ _ _ _ _ _ _ _ _ _ _ hlen e5 e3 e4 e2 e1 x0 x2 x3 x4 x5 x6 x7 x8 x9 x11 x12 x13
  rw [hz] at e6
  exact ⟨vs, p2, hp2, hv, hvl, e6⟩
theorem steps_ok (ds : List Int) (x0 x2 x3 x4 x5 x6 x7 x8 x9 x12 x13 : M.Slot) : ∀ (L : List M.D) (ws : List (List Nat)) (p : Int) (x11 : M.Slot), 0 ≤ p → (∀ w ∈ ws, GWd w) → ws.length + L.length ≤ 3700 → 0 < ws.length →
    (∃ S0, M.forM (gNm 11) l_law_1 L ⟨[x0, .val (.ref 0), x2, x3, x4, x5, x6, x7, x8, x9, .val (.lst (ws.map encS)), x11, x12, x13], [Hd ds p]⟩ = some (.rt (.bl true), S0)) ∨ ∃ (p' : Int) (y10 y11 : M.Slot), 0 ≤ p' ∧ M.forM (gNm 11) l_law_1 L ⟨[x0, .val (.ref 0), x2, x3, x4, x5, x6, x7, x8, x9, .val (.lst (ws.map encS)), x11, x12, x13], [Hd ds p]⟩ = some (.nx, ⟨[x0, .val (.ref 0), x2, x3, x4, x5, x6, x7, x8, x9, y10, y11, x12, x13], [Hd ds p']⟩) := by
  intro L
  induction L with
  | nil => intro ws p x11 hp _ _ _; exact .inr ⟨p, _, x11, hp, rfl⟩
  | cons a L ih =>
    intro ws p x11 hp hw hl hl0
    simp only [List.length_cons] at hl
    obtain ⟨vs, p1, hp1, hv, hvl, e1⟩ := step_ok ds p hp hw (by omega) hl0 x0 x2 x3 x4 x5 x6 x7 x8 x9 (.val a) x12 x13
    have e0 : M.forM (gNm 11) l_law_1 (a :: L) ⟨[x0, .val (.ref 0), x2, x3, x4, x5, x6, x7, x8, x9, .val (.lst (ws.map encS)), x11, x12, x13], [Hd ds p]⟩ = (l_law_1 ⟨[x0, .val (.ref 0), x2, x3, x4, x5, x6, x7, x8, x9, .val (.lst (ws.map encS)), .val a, x12, x13], [Hd ds p]⟩).bind fun x => match x.1 with
      | .nx => M.forM (gNm 11) l_law_1 L x.2
      | .ct => M.forM (gNm 11) l_law_1 L x.2
      | .bk => some (.nx, x.2)
      | .rt v => some (.rt v, x.2) := rfl
    rw [e0, e1]
    by_cases c : vs.length = 0
    · rw [if_pos c]; exact .inl ⟨_, rfl⟩
    · rw [if_neg c]
      rcases ih vs p1 (.val a) hp1 hv (by omega) (by omega) with ⟨S0, h⟩ | ⟨p', y10, y11, h0, h⟩
      · exact .inl ⟨S0, h⟩
      · exact .inr ⟨p', y10, y11, h0, h⟩
end Lk03



namespace Lk03
open PySem L2 M
theorem aux4 (fT : FF) (lq tl : SF) (x0 x3 x4 x5 x6 x7 x8 x9 x10 x11 x12 x13 : M.Slot) (C C2 : M.D) (k : Int) (n : Nat) (hk : 4 + k = (n : Nat)) (hn : n < 1000) (H1 H2 : List Cell) (y11 : M.Slot) (e1 : fT [.ref 0, .int 6] H1 = some (.int k, H2))
    (e2 : M.forM (gNm 11) lq ((List.range n).map fun j : Nat => M.D.int (j : Int)) ⟨[x0, .val (.ref 0), .val C, x3, x4, x5, x6, x7, x8, x9, x10, x11, .val C, .val (.int (n : Nat))], H2⟩ = some (.nx, ⟨[x0, .val (.ref 0), .val C, x3, x4, x5, x6, x7, x8, x9, x10, y11, .val C2, .val (.int (n : Nat))], H2⟩)) : (sSeq (sAsg (eVar 2) (gNm 12)) (sSeq (sAsg (eOp gAdd (eC (.int 4)) (eFn 2 fT (aCons (eVar 1) (aCons (eC (.int 6)) aNil)))) (gNm 13)) (sSeq (sFor (iRg1 (eVar 13)) (gNm 11) lq) tl))) ⟨[x0, .val (.ref 0), .val C, x3, x4, x5, x6, x7, x8, x9, x10, x11, x12, x13], H1⟩ = tl ⟨[x0, .val (.ref 0), .val C, x3, x4, x5, x6, x7, x8, x9, x10, y11, .val C2, .val (.int (n : Nat))], H2⟩ := by
  have r1 : iRg1 (eVar 13) ⟨[x0, .val (.ref 0), .val C, x3, x4, x5, x6, x7, x8, x9, x10, x11, .val C, .val (.int (n : Nat))], H2⟩ = some ((List.range n).map (fun j : Nat => M.D.int (j : Int)), ⟨[x0, .val (.ref 0), .val C, x3, x4, x5, x6, x7, x8, x9, x10, x11, .val C, .val (.int (n : Nat))], H2⟩) := iRg1_step rfl (by omega)
  generalize (List.range n).map (fun j : Nat => M.D.int (j : Int)) = L at e2 r1
  revert tl; refine opq ?_; intro tl
  simp [-iRg1_ap, e1, hk, r1, e2]
theorem aux5n (lp tl : SF) (x0 x2 x3 x4 x5 x6 x7 x8 x9 x10 x11 x12 x13 : M.Slot) (H1 : List Cell) (S2 : Ms) (e : M.forM (gNm 11) lp ((List.range 3).map fun j : Nat => M.D.int (j : Int)) ⟨[x0, .val (.ref 0), x2, x3, x4, x5, x6, x7, x8, x9, x10, x11, x12, x13], H1⟩ = some (.nx, S2)) : (sSeq (sFor (iRg1 (eC (.int 3))) (gNm 11) lp) tl) ⟨[x0, .val (.ref 0), x2, x3, x4, x5, x6, x7, x8, x9, x10, x11, x12, x13], H1⟩ = tl S2 := by
  have r1 : ∀ S : Ms, iRg1 (eC (.int 3)) S = some ((List.range 3).map (fun j : Nat => M.D.int (j : Int)), S) := fun S => iRg1_step (f := eC (.int 3)) (S := S) (S' := S) (n := 3) rfl (by omega)
  generalize (List.range 3).map (fun j : Nat => M.D.int (j : Int)) = L at e r1
  revert tl; refine opq ?_; intro tl
  simp [-iRg1_ap, r1, e]
theorem aux5r (lp tl : SF) (x0 x2 x3 x4 x5 x6 x7 x8 x9 x10 x11 x12 x13 : M.Slot) (H1 : List Cell) (S2 : Ms) (e : M.forM (gNm 11) lp ((List.range 3).map fun j : Nat => M.D.int (j : Int)) ⟨[x0, .val (.ref 0), x2, x3, x4, x5, x6, x7, x8, x9, x10, x11, x12, x13], H1⟩ = some (.rt (.bl true), S2)) : (sSeq (sFor (iRg1 (eC (.int 3))) (gNm 11) lp) tl) ⟨[x0, .val (.ref 0), x2, x3, x4, x5, x6, x7, x8, x9, x10, x11, x12, x13], H1⟩ = some (.rt (.bl true), S2) := by
  have r1 : ∀ S : Ms, iRg1 (eC (.int 3)) S = some ((List.range 3).map (fun j : Nat => M.D.int (j : Int)), S) := fun S => iRg1_step (f := eC (.int 3)) (S := S) (S' := S) (n := 3) rfl (by omega)
  generalize (List.range 3).map (fun j : Nat => M.D.int (j : Int)) = L at e r1
  revert tl; refine opq ?_; intro tl
  simp [-iRg1_ap, r1, e]
theorem aux9 (fT fR : FF) (tl : SF) (x0 x2 x4 x5 x6 x8 x9 x10 x11 x12 x13 : M.Slot) (T T1 T2 T3 T4 F : Str) (a v : Int) (W : M.D) (R : List M.D) (z : Int) (H1 H2 H3 : List Cell) (hlen : gLen (.str T) = some (.int z)) (e1 : fT [.ref 0, .int (z + 1)] H1 = some (.int a, H2)) (e2 : fT [.ref 0, .int 7] H2 = some (.int v, H3))
    (hx : atI [M.D.str "A", .str "_", .str ".", .str "\n", .str "\t", .str "*", .str "{"] v = some (.str F)) (s1 : gSl3 (.str T) none (some a) = some (.str T1)) (s2 : gSl3 (.str T) (some a) none = some (.str T2)) (b1 : gAdd (.str T1) (.str F) = some (.str T3)) (b2 : gAdd (.str T3) (.str T2) = some (.str T4)) (e3 : fR [.str T4] H3 = some (.non, H3)) : (sSeq (sAsg (eFn 2 fT (aCons (eVar 1) (aCons (eOp gAdd (eCallV gLen 3) (eC (.int 1))) aNil))) (gNm 8)) (sSeq (sAsg (eOp gIx (eNew (cLst (aCons (eC (.str "A")) (aCons (eC (.str "_")) (aCons (eC (.str ".")) (aCons (eC (.str "\n")) (aCons (eC (.str "\t")) (aCons (eC (.str "*")) (aCons (eC (.str "{")) aNil))))))))) (eFn 2 fT (aCons (eVar 1) (aCons (eC (.int 7)) aNil)))) (gNm 9)) (sSeq (sIf (bOf (eOp gNotN (eFn 1 fR (aCons (eOp gAdd (eOp gAdd (eSl3 (eVar 3) oNone (oSome (eVar 8))) (eVar 9)) (eSl3 (eVar 3) (oSome (eVar 8)) oNone)) aNil)) (eC .non))) (sRet (eC (.bl false))) sNil) (sSeq (sAsg (eOpL gIx 7 (eC (.int 0))) (gNm 10)) tl)))) ⟨[x0, .val (.ref 0), x2, .val (.str T), x4, x5, x6, .val (.lst (W :: R)), x8, x9, x10, x11, x12, x13], H1⟩ = tl ⟨[x0, .val (.ref 0), x2, .val (.str T), x4, x5, x6, .val (.lst (W :: R)), .val (.int a), .val (.str F), .val W, x11, x12, x13], H3⟩ := by
  revert tl; refine opq ?_; intro tl
  simp [-gAdd_str, hlen, e1, e2, hx, s1, s2, b1, b2, e3]
theorem aux13 (fR fS fE fD fM : FF) (tl : SF) (x0 x3 x4 x5 x6 x7 x8 x9 x10 x11 x12 x13 : M.Slot) (C W V : M.D) (p0 : Int) (dep : Int) (U : Str) (H1 H2 H3 H4 : List Cell) (e1 : fM [.ref 0] H1 = some (.int p0, H2)) (e2 : fD [.ref 0, C, .int p0, .bl true] H2 = some (.lst [W, .int dep], H3)) (hV : V = if dep > 8 then .non else C)
    (e3 : fS [.ref 0, W] H3 = some (.str U, H4)) (e4 : fR [.str U] H4 = some (V, H4)) (e5 : fE [V, V] H4 = some (.bl true, H4)) : (sSeq (sAsg (eFn 4 fD (aCons (eVar 1) (aCons (eVar 2) (aCons (eFn 1 fM (aCons (eVar 1) aNil)) (aCons (eC (.bl true)) aNil))))) (gNm 7)) (sSeq (sAsg (eVar 2) (gNm 6)) (sSeq (sIf (bOf (eOp gGt (eOpL gIx 7 (eC (.int 1))) (eC (.int 8)))) (sAsg (eC .non) (gNm 6)) sNil) (sSeq (sIf (bNot (bTru (eFn 2 fE (aCons (eFn 1 fR (aCons (eFn 2 fS (aCons (eVar 1) (aCons (eOpL gIx 7 (eC (.int 0))) aNil))) aNil)) (aCons (eVar 6) aNil))))) (sRet (eC (.bl false))) sNil) tl)))) ⟨[x0, .val (.ref 0), .val C, x3, x4, x5, x6, x7, x8, x9, x10, x11, x12, x13], H1⟩ = tl ⟨[x0, .val (.ref 0), .val C, x3, x4, x5, .val V, .val (.lst [W, .int dep]), x8, x9, x10, x11, x12, x13], H4⟩ := by
  revert tl; refine opq ?_; intro tl
  by_cases c : dep > 8
  · rw [if_pos c] at hV
    subst hV
    simp [e1, e2, c, e3, e4, e5]
  · rw [if_neg c] at hV
    subst hV
    simp [e1, e2, c, e3, e4, e5]
theorem aux20 (fR fS fE fD fW fX : FF) (tl : SF) (x0 x3 x4 x5 x6 x7 x8 x9 x10 x11 x12 x13 : M.Slot) (C W V : M.D) (dep : Int) (T U : Str) (H1 H2 H3 : List Cell) (t1 : fX [C] H1 = some (.str T, H1)) (t2 : fW [C] H1 = some (.str T, H1)) (e2 : fD [.ref 0, C, .int 0, .bl false] H1 = some (.lst [W, .int dep], H2)) (hV : V = if dep > 8 then .non else C) (heq : eqD (.str T) (.str T) = some true)
    (r1 : fR [.str T] H2 = some (V, H2)) (q1 : fE [V, V] H2 = some (.bl true, H2)) (e3 : fS [.ref 0, W] H2 = some (.str U, H3)) (e4 : fR [.str U] H3 = some (V, H3)) (e5 : fE [V, V] H3 = some (.bl true, H3)) : (sSeq (sAsg (eFn 1 fX (aCons (eVar 2) aNil)) (gNm 3)) (sSeq (sAsg (eFn 1 fW (aCons (eVar 2) aNil)) (gNm 4)) (sSeq (sAsg (eFn 4 fD (aCons (eVar 1) (aCons (eVar 2) (aCons (eC (.int 0)) (aCons (eC (.bl false)) aNil))))) (gNm 5)) (sSeq (sIf (bOr (bNot (bTru (eIsiC "str" (eVar 4)))) (bOf (eOp gNe (eVar 4) (eVar 3)))) (sRet (eC (.bl false))) sNil) (sSeq (sAsg (eVar 2) (gNm 6)) (sSeq (sIf (bOf (eOp gGt (eOpL gIx 5 (eC (.int 1))) (eC (.int 8)))) (sAsg (eC .non) (gNm 6)) sNil) (sSeq (sIf (bOr (bNot (bTru (eFn 2 fE (aCons (eFn 1 fR (aCons (eVar 3) aNil)) (aCons (eVar 6) aNil))))) (bNot (bTru (eFn 2 fE (aCons (eFn 1 fR (aCons (eFn 2 fS (aCons (eVar 1) (aCons (eOpL gIx 5 (eC (.int 0))) aNil))) aNil)) (aCons (eVar 6) aNil)))))) (sRet (eC (.bl false))) sNil) tl))))))) ⟨[x0, .val (.ref 0), .val C, x3, x4, x5, x6, x7, x8, x9, x10, x11, x12, x13], H1⟩ = tl ⟨[x0, .val (.ref 0), .val C, .val (.str T), .val (.str T), .val (.lst [W, .int dep]), .val V, x7, x8, x9, x10, x11, x12, x13], H3⟩ := by
  revert tl; refine opq ?_; intro tl
  by_cases c : dep > 8
  · rw [if_pos c] at hV
    subst hV
    simp [t1, t2, e2, heq, c, r1, q1, e3, e4, e5]
  · rw [if_neg c] at hV
    subst hV
    simp [t1, t2, e2, heq, c, r1, q1, e3, e4, e5]
theorem aux21 (fT fB : FF) (tl : SF) (x0 x2 x3 x4 x5 x6 x7 x8 x9 x10 x11 x12 x13 : M.Slot) (C : M.D) (k : Int) (H1 H2 H3 : List Cell) (e1 : fT [.ref 0, .int 5] H1 = some (.int k, H2)) (e2 : fB [.ref 0, .int (1 + k), .int 8] H2 = some (C, H3)) : (sSeq (sAsg (eFn 3 fB (aCons (eVar 1) (aCons (eOp gAdd (eC (.int 1)) (eFn 2 fT (aCons (eVar 1) (aCons (eC (.int 5)) aNil)))) (aCons (eC (.int 8)) aNil)))) (gNm 2)) tl) ⟨[x0, .val (.ref 0), x2, x3, x4, x5, x6, x7, x8, x9, x10, x11, x12, x13], H1⟩ = tl ⟨[x0, .val (.ref 0), .val C, x3, x4, x5, x6, x7, x8, x9, x10, x11, x12, x13], H3⟩ := by
  revert tl; refine opq ?_; intro tl
  simp [e1, e2]
section
variable {c : Cn} (hc : COk c) (hl : lv c * (ht c + 1) ≤ 48) (hh : ht c ≤ 5)
include hc hl hh
theorem law_4 (ds : List Int) (p : Int) (hp : 0 ≤ p) (x0 x4 x5 x6 x7 x8 x9 x10 x11 x12 x13 : M.Slot) : ∃ S0, t_law_4 ⟨[x0, .val (.ref 0), .val (encC c), .val (.str (S (txC c))), x4, x5, x6, x7, x8, x9, x10, x11, x12, x13], [Hd ds p]⟩ = some (.rt (.bl true), S0) := by
  obtain ⟨k, k0, k1, e1⟩ := take_ok ds p hp 6 (by omega) (by omega) []
  obtain ⟨n, hn⟩ : ∃ n : Nat, 4 + k = (n : Nat) := ⟨(4 + k).toNat, by omega⟩
  obtain ⟨y11, e2⟩ := chain_loop [Hd ds (p + 1)] x0 (.val (encC c)) (.val (.str (S (txC c)))) x4 x5 x6 x7 x8 x9 x10 (.val (.int (n : Nat))) ((List.range n).map fun j : Nat => M.D.int (j : Int)) c x11
  rw [List.length_map, List.length_range] at e2
  obtain ⟨S0, e3⟩ := law_t1 hc hl n (by omega) (by omega) [Hd ds (p + 1)] x0 x4 x5 x6 x7 x8 x9 x10 y11
  exact ⟨S0, (aux4 f_law_take l_law_2 t_law_1 x0 (.val (.str (S (txC c)))) x4 x5 x6 x7 x8 x9 x10 x11 x12 x13 _ _ k n hn (by omega) _ _ y11 e1 e2).trans e3⟩
theorem law_5 (ds : List Int) (p : Int) (hp : 0 ≤ p) {ws : List (List Nat)} (hw : ∀ w ∈ ws, GWd w) (hwl : ws.length ≤ 3600) (hw0 : 0 < ws.length) (x0 x4 x5 x6 x7 x8 x9 x11 x12 x13 : M.Slot) : ∃ S0, t_law_5 ⟨[x0, .val (.ref 0), .val (encC c), .val (.str (S (txC c))), x4, x5, x6, x7, x8, x9, .val (.lst (ws.map encS)), x11, x12, x13], [Hd ds p]⟩ = some (.rt (.bl true), S0) := by
  rcases steps_ok ds x0 (.val (encC c)) (.val (.str (S (txC c)))) x4 x5 x6 x7 x8 x9 x12 x13 ((List.range 3).map fun j : Nat => M.D.int (j : Int)) ws p x11 hp hw (by simp; omega) hw0 with ⟨S0, e⟩ | ⟨p', y10, y11, h0, e⟩
  · exact ⟨S0, aux5r l_law_1 t_law_4 x0 (.val (encC c)) (.val (.str (S (txC c)))) x4 x5 x6 x7 x8 x9 (.val (.lst (ws.map encS))) x11 x12 x13 _ _ e⟩
  · obtain ⟨S0, e3⟩ := law_4 hc hl hh ds p' h0 x0 x4 x5 x6 x7 x8 x9 y10 y11 x12 x13
    exact ⟨S0, (aux5n l_law_1 t_law_4 x0 (.val (encC c)) (.val (.str (S (txC c)))) x4 x5 x6 x7 x8 x9 (.val (.lst (ws.map encS))) x11 x12 x13 _ _ e).trans e3⟩
theorem law_9 (ds : List Int) (p : Int) (hp : 0 ≤ p) {ws : List (List Nat)} (hw : ∀ w ∈ ws, GWd w) (hwl : ws.length ≤ 3600) (hw0 : 0 < ws.length) (dep : Int) (x0 x4 x5 x6 x8 x9 x10 x11 x12 x13 : M.Slot) : ∃ S0, t_law_9 ⟨[x0, .val (.ref 0), .val (encC c), .val (.str (S (txC c))), x4, x5, x6, .val (.lst [.lst (ws.map encS), .int dep]), x8, x9, x10, x11, x12, x13], [Hd ds p]⟩ = some (.rt (.bl true), S0) := by
  have tl := txC_len c hc
  obtain ⟨a, a0, a1, e1⟩ := take_ok ds p hp ((txC c).length + 1) (by omega) (by omega) []
  obtain ⟨a, rfl⟩ : ∃ n : Nat, a = (n : Int) := ⟨a.toNat, by omega⟩
  obtain ⟨v, v0, v1, e2⟩ := take_ok ds (p + 1) (by omega) 7 (by omega) (by omega) []
  obtain ⟨x, hx, hF⟩ := foreign_at v0 v1
  have ha : a ≤ (txC c).length := by omega
  have s1 := sl_to (by omega : (txC c).length ≤ 1000000) ha
  have s2 := sl_from (by omega : (txC c).length ≤ 1000000) ha
  have b1 := addS (a := (txC c).take a) (b := [x]) (by simp; omega)
  have b2 := addS (a := (txC c).take a ++ [x]) (b := (txC c).drop a) (by simp; omega)
  obtain ⟨o, hg⟩ := gw_all _ ((txC c).take a ++ [x] ++ (txC c).drop a) (Nat.le_refl _)
  have ho : o = none := gw_far hg hF.1 hF.2 (by simp)
  subst ho
  have e3 := read_ok (by simp; omega) hg (fun ws h => by cases h) [Hd ds (p + 1 + 1)]
  dsimp only at e3
  have hlen := lenS (by omega : (txC c).length ≤ 1000000)
  obtain ⟨S0, e5⟩ := law_5 hc hl hh ds (p + 1 + 1) (by omega) hw hwl hw0 x0 x4 x5 x6 (.val (.lst [.lst (ws.map encS), .int dep])) (.val (.int (a : Nat))) (.val (.str (S [x]))) x11 x12 x13
  exact ⟨S0, (aux9 f_law_take f_read_condition t_law_5 x0 (.val (encC c)) x4 x5 x6 x8 x9 x10 x11 x12 x13 _ _ _ _ _ _ _ _ _ [.int dep] _ _ _ _ hlen e1 e2 hx s1 s2 b1 b2 e3).trans e5⟩
theorem due_of {ws : List (List Nat)} {P dep : Nat} (h : Dr c P ws dep) : oD (rdC ws) = if (dep : Int) > 8 then .non else encC c := by
  rw [rdC_dr hc h]
  by_cases q : dep ≤ 8
  · rw [if_pos q, if_neg (by omega)]; rfl
  · rw [if_neg q, if_pos (by omega)]; rfl
theorem law_13 (ds : List Int) (p : Int) (hp : 0 ≤ p) (x0 x4 x5 x6 x7 x8 x9 x10 x11 x12 x13 : M.Slot) : ∃ S0, t_law_13 ⟨[x0, .val (.ref 0), .val (encC c), .val (.str (S (txC c))), x4, x5, x6, x7, x8, x9, x10, x11, x12, x13], [Hd ds p]⟩ = some (.rt (.bl true), S0) := by
  obtain ⟨v, p1, hp1, v0, v9, e1⟩ := many_ok ds p hp []
  obtain ⟨v, rfl⟩ : ∃ n : Nat, v = (n : Int) := ⟨v.toNat, by omega⟩
  obtain ⟨P, ws, dep, p2, hp2, he, e2⟩ := dressed_C ds [] true c 48 hc (by omega) (by omega) v p1 (by omega) hp1
  have hwl := he.dd.ln
  have wv := ws_of he.dd.gw (by omega)
  obtain ⟨U, p3, hp3, g1, g2, e3⟩ := spaced_ok ds p2 hp2 [] he.dd.gw (by omega)
  have e4 := read_ok (by omega) g1 (fun ws e => by cases e; exact wv) [Hd ds p3]
  dsimp only at e4
  have e5 := same_rd wv 48 (by omega) [Hd ds p3]
  have hV := due_of hc hl hh he.dd.dr
  obtain ⟨S0, e6⟩ := law_9 hc hl hh ds p3 hp3 he.dd.gw (by omega) he.ne (dep : Int) x0 x4 x5 (.val (oD (rdC ws))) x8 x9 x10 x11 x12 x13
  exact ⟨S0, (aux13 f_read_condition f_law_spaced (f_law_same 48) (f_law_dressed 48) f_law_many t_law_9 x0 (.val (.str (S (txC c)))) x4 x5 x6 x7 x8 x9 x10 x11 x12 x13 _ _ _ _ _ _ _ _ _ _ e1 e2 hV e3 e4 e5).trans e6⟩
theorem law_20 (ds : List Int) (p : Int) (hp : 0 ≤ p) (x0 x3 x4 x5 x6 x7 x8 x9 x10 x11 x12 x13 : M.Slot) : ∃ S0, t_law_20 ⟨[x0, .val (.ref 0), .val (encC c), x3, x4, x5, x6, x7, x8, x9, x10, x11, x12, x13], [Hd ds p]⟩ = some (.rt (.bl true), S0) := by
  have t1 := text_C [Hd ds p] c 48 hc (by omega) (by omega)
  have t2 := write_C [Hd ds p] c 48 hc (by omega) (by omega)
  obtain ⟨P, ws, dep, p1, hp1, he, e2⟩ := dressed_C ds [] false c 48 hc (by omega) (by omega) 0 p (by omega) hp
  rw [show (((0 : Nat)) : Int) = 0 from rfl] at e2
  have hws : ws = wdC c := by rw [he.pl rfl, pairs0]
  have hwl := he.dd.ln
  have tl := txC_len c hc
  have wv := ws_of he.dd.gw (by omega)
  have hok := ok_txC c hc
  have heq := eqS hok hok
  rw [decide_eq_true rfl] at heq
  have r1 := read_ok (by omega) (gw_C hc) (fun vs e => by cases e; rw [← hws]; exact wv) [Hd ds p1]
  dsimp only at r1
  rw [← hws] at r1
  have q1 := same_rd wv 48 (by omega) [Hd ds p1]
  obtain ⟨U, p3, hp3, g1, g2, e3⟩ := spaced_ok ds p1 hp1 [] he.dd.gw (by omega)
  have e4 := read_ok (by omega) g1 (fun ws e => by cases e; exact wv) [Hd ds p3]
  dsimp only at e4
  have e5 := same_rd wv 48 (by omega) [Hd ds p3]
  have hV := due_of hc hl hh he.dd.dr
  obtain ⟨S0, e6⟩ := law_13 hc hl hh ds p3 hp3 x0 (.val (.str (S (txC c)))) (.val (.lst [.lst (ws.map encS), .int (dep : Nat)])) (.val (oD (rdC ws))) x7 x8 x9 x10 x11 x12 x13
  exact ⟨S0, (aux20 f_read_condition f_law_spaced (f_law_same 48) (f_law_dressed 48) (f_write_condition 48) (f_law_condition_text 48) t_law_13 x0 x3 x4 x5 x6 x7 x8 x9 x10 x11 x12 x13 _ _ _ _ _ _ _ _ _ t1 t2 e2 hV heq r1 q1 e3 e4 e5).trans e6⟩
end
theorem law_21 (ds : List Int) (p : Int) (hp : 0 ≤ p) (x0 x2 x3 x4 x5 x6 x7 x8 x9 x10 x11 x12 x13 : M.Slot) : ∃ S0, t_law_21 ⟨[x0, .val (.ref 0), x2, x3, x4, x5, x6, x7, x8, x9, x10, x11, x12, x13], [Hd ds p]⟩ = some (.rt (.bl true), S0) := by
  obtain ⟨k, k0, k1, e1⟩ := take_ok ds p hp 5 (by omega) (by omega) []
  obtain ⟨k, rfl⟩ : ∃ n : Nat, k = (n : Int) := ⟨k.toNat, by omega⟩
  obtain ⟨c, p1, hp1, hc, h8, hd, e2⟩ := tree_ok ds [] (1 + k) 48 8 (p + 1) (by omega) (by omega) (by omega) (by omega)
  rw [show ((1 + k : Nat) : Int) = 1 + (k : Int) by omega] at e2
  have hl : lv c * (ht c + 1) ≤ 48 := Nat.mul_le_mul (by omega : lv c ≤ 8) (by omega : ht c + 1 ≤ 6)
  obtain ⟨S0, e3⟩ := law_20 hc hl (by omega) ds p1 hp1 x0 x3 x4 x5 x6 x7 x8 x9 x10 x11 x12 x13
  exact ⟨S0, (aux21 f_law_take (f_law_tree 48) t_law_20 x0 x2 x3 x4 x5 x6 x7 x8 x9 x10 x11 x12 x13 _ _ _ _ _ e1 e2).trans e3⟩
theorem law_true (ns : List Int) (hl : ns.length ≤ 63) (hb : ∀ z ∈ ns, Builtin.Int.intBits z ≤ 1048576) : ∃ m, f_law [.sc (ns.map M.D.int)] [] = some (.bl true, m) := by
  obtain ⟨ds, hd⟩ := draws_ok ns 700 (by omega) (by omega) []
  rw [show ((700 : Nat) : Int) = 700 from rfl] at hd
  have hI : ns.map M.D.int = I ns := rfl
  rw [hI]
  obtain ⟨S0, e3⟩ := law_21 ds 0 (by omega) (.val (.sc (I ns))) .emp .emp .emp .emp .emp .emp .emp .emp .emp .emp .emp .emp
  have e4 : b_law ⟨.val (.sc (I ns)) :: List.replicate 13 .emp, []⟩ = t_law_21 ⟨[.val (.sc (I ns)), .val (.ref 0), .emp, .emp, .emp, .emp, .emp, .emp, .emp, .emp, .emp, .emp, .emp, .emp], [Hd ds 0]⟩ := by
    unfold Hd b_law
    generalize t_law_21 = tl
    revert tl
    refine opq ?_
    intro tl
    generalize f_law_draws = q2 at hd
    simp [hd]
  refine ⟨S0.m, ?_⟩
  have e5 : f_law [.sc (I ns)] [] = (b_law ⟨.val (.sc (I ns)) :: List.replicate 13 .emp, []⟩).bind fun p => match p.1 with
    | .rt d => some (d, p.2.m)
    | .nx => some (.non, p.2.m)
    | _ => none := fnM_ap
  rw [e5, e4, e3]
  rfl
end Lk03

/-! the walk of k03, printed by gen.py -/
namespace Lk03
open PySem PySem.Spec L2 M
def top (i : Nat) : Stmt := PySem.Challenge.pw_wayorring_k03_conditions_read_back.main.body.getD i (.Pass ⟨0, 0, 0, 0⟩)
structure Txt (K : PySem.W.Frag) (mg : Str → Option Value) : Prop where
  b_abs : mg "abs" = none
  b_bool : mg "bool" = none
  b_int : mg "int" = none
  b_isinstance : mg "isinstance" = none
  b_len : mg "len" = none
  b_list : mg "list" = none
  b_max : mg "max" = none
  b_range : mg "range" = none
  b_str : mg "str" = none
  b_tuple : mg "tuple" = none
  g_LETTERS : ∃ t, mg "LETTERS" = some (.str "abcdefghijklmnopqrstuvwxyz" t)
  g_DIGITS : ∃ t, mg "DIGITS" = some (.str "0123456789" t)
  g_LONG_SIGNS : ∃ u, mg "LONG_SIGNS" = some u ∧ KStrs K u ["<=", ">=", "==", "!="]
  g_SHORT_SIGNS : ∃ t, mg "SHORT_SIGNS" = some (.str "<>=+-()[],:" t)
  g_RESERVED : ∃ u, mg "RESERVED" = some u ∧ KStrs K u ["input", "from", "to", "list", "def", "let", "if", "else", "end", "while", "at", "most", "check", "refuse", "answer", "return", "skip", "and", "or", "not", "row", "yes", "no", "turn", "fault", "when", "then"]
  g_MOST_LETTERS : ∃ t, mg "MOST_LETTERS" = some (.int 12 t)
  g_MOST_DIGITS : ∃ t, mg "MOST_DIGITS" = some (.int 10 t)
  g_SIGNS : ∃ u, mg "SIGNS" = some u ∧ KStrs K u ["<", "<=", ">", ">=", "==", "!="]
  g_MOST_OPEN : ∃ t, mg "MOST_OPEN" = some (.int 8 t)
section
variable {P : Program} {w : World} {K : PySem.W.Frag} {mg : Str → Option Value} {base : Heap}
abbrev s_run_end : Stmt := top 8
theorem sc_run_end : FnScope ["text", "start", "signs", "end"] ["text", "start", "signs"] (defScope s_run_end) := ⟨rfl, rfl, rfl, by decide +kernel, rfl, by decide +kernel, by decide +kernel⟩
theorem ok_run_end {f : Addr} {fd : FuncData} (T : Txt K mg)  (F : Fun K "run_end" "run_end" s_run_end f fd) (hm : mg "run_end" = some (.ref f)) : Fnn P w K mg base 1 "run_end" ["text", "start", "signs"] f_run_end := by
  refine fnn (k := 0) F hm sc_run_end (fun _ _ _ _ _ _ us hl => match us, hl with | [_, _, _], _ => rfl) (fun cdv A outer s H E hr => ?_)
  exact (mss_cons (ms_set 3 sc_run_end.nd (me_var 1))
    (mss_cons (ms_while (mt_w (mw_and (mt_cmp oLt (me_var 3) (me_callBV 0 cLen (by rfl) T.b_len PySem.boot_len)) (mw_and1 (mt_cmpR 2 (oIn3 (u65 hr)) (me_ixV 0 oIx (me_var 3)))))) (mss_one (ms_aug 3 ip_add sc_run_end.nd me_int)))
    (mss_one (ms_ret (me_var 3)))))
abbrev s_word_end : Stmt := top 9
theorem sc_word_end : FnScope ["text", "start"] ["text", "start"] (defScope s_word_end) := ⟨rfl, rfl, rfl, by decide +kernel, rfl, by decide +kernel, by decide +kernel⟩
theorem ok_word_end {f : Addr} {fd : FuncData} (T : Txt K mg) (G_run_end : Fnn P w K mg base 1 "run_end" ["text", "start", "signs"] f_run_end) (F : Fun K "word_end" "word_end" s_word_end f fd) (hm : mg "word_end" = some (.ref f)) : Fnn P w K mg base 2 "word_end" ["text", "start"] f_word_end := by
  refine fnn (k := 1) F hm sc_word_end (fun _ _ _ _ _ _ us hl => match us, hl with | [_, _], _ => rfl) (fun cdv A outer s H E hr => ?_)
  exact (mss_cons (ms_if (mt_cmp (oIn3 (u65 hr)) (me_ixV 0 oIx (me_var 1)) (me_globS T.g_LETTERS)) (mss_one (ms_ret (me_f G_run_end (hr.mono (by decide)) (ma_cons (me_var 0) (ma_cons (me_var 1) (ma_cons (me_globS T.g_LETTERS) ma_nil)))))) mss_nil)
    (mss_cons (ms_if (mt_cmp (oIn3 (u65 hr)) (me_ixV 0 oIx (me_var 1)) (me_globS T.g_DIGITS)) (mss_one (ms_ret (me_f G_run_end (hr.mono (by decide)) (ma_cons (me_var 0) (ma_cons (me_var 1) (ma_cons (me_globS T.g_DIGITS) ma_nil)))))) mss_nil)
    (mss_cons (ms_if (mt_cmp (oIn3 (u65 hr)) (me_sl3 (me_var 0) (mo_some (me_var 1)) (mo_some (me_op oAdd (me_var 1) me_int))) (me_globT T.g_LONG_SIGNS)) (mss_one (ms_ret (me_op oAdd (me_var 1) me_int))) mss_nil)
    (mss_cons (ms_if (mt_cmp (oIn3 (u65 hr)) (me_ixV 0 oIx (me_var 1)) (me_globS T.g_SHORT_SIGNS)) (mss_one (ms_ret (me_op oAdd (me_var 1) me_int))) mss_nil)
    (mss_one (ms_ret (me_var 1)))))))
abbrev s_split_row : Stmt := top 10
theorem sc_split_row : FnScope ["text", "words", "start", "end"] ["text"] (defScope s_split_row) := ⟨rfl, rfl, rfl, by decide +kernel, rfl, by decide +kernel, by decide +kernel⟩
theorem ok_split_row {f : Addr} {fd : FuncData} (T : Txt K mg) (G_run_end : Fnn P w K mg base 1 "run_end" ["text", "start", "signs"] f_run_end) (G_word_end : Fnn P w K mg base 2 "word_end" ["text", "start"] f_word_end) (F : Fun K "split_row" "split_row" s_split_row f fd) (hm : mg "split_row" = some (.ref f)) : Fnn P w K mg base 3 "split_row" ["text"] f_split_row := by
  refine fnn (k := 2) F hm sc_split_row (fun _ _ _ _ _ _ us hl => match us, hl with | [_], _ => rfl) (fun cdv A outer s H E hr => ?_)
  exact (mss_cons (ms_own 1 sc_split_row.nd (mf_lst ma_nil))
    (mss_cons (ms_set 2 sc_split_row.nd (me_f G_run_end (hr.mono (by decide)) (ma_cons (me_var 0) (ma_cons me_int (ma_cons me_str ma_nil)))))
    (mss_cons (ms_while (mt_cmp oLt (me_var 2) (me_callBV 0 cLen (by rfl) T.b_len PySem.boot_len)) (mss_cons (ms_set 3 sc_split_row.nd (me_f G_word_end (hr.mono (by decide)) (ma_cons (me_var 0) (ma_cons (me_var 2) ma_nil))))
    (mss_cons (ms_if (mt_cmp (oEq hr.units) (me_var 3) (me_var 2)) (mss_one (ms_ret me_non)) mss_nil)
    (mss_cons (ms_expr (me_app 1 (me_sl3 (me_var 0) (mo_some (me_var 2)) (mo_some (me_var 3)))))
    (mss_one (ms_set 2 sc_split_row.nd (me_f G_run_end (hr.mono (by decide)) (ma_cons (me_var 0) (ma_cons (me_var 3) (ma_cons me_str ma_nil))))))))))
    (mss_one (ms_ret (me_var 1))))))
abbrev s_is_name : Stmt := top 11
theorem sc_is_name : FnScope ["word"] ["word"] (defScope s_is_name) := ⟨rfl, rfl, rfl, by decide +kernel, rfl, by decide +kernel, by decide +kernel⟩
theorem ok_is_name {f : Addr} {fd : FuncData} (T : Txt K mg) (G_run_end : Fnn P w K mg base 1 "run_end" ["text", "start", "signs"] f_run_end) (F : Fun K "is_name" "is_name" s_is_name f fd) (hm : mg "is_name" = some (.ref f)) : Fnn P w K mg base 2 "is_name" ["word"] f_is_name := by
  refine fnn (k := 1) F hm sc_is_name (fun _ _ _ _ _ _ us hl => match us, hl with | [_], _ => rfl) (fun cdv A outer s H E hr => ?_)
  exact (mss_cons (ms_if (mt_w (mw_or (mt_cmp (oIn3 (u65 hr)) (me_var 0) (me_globT T.g_RESERVED)) (mw_or1 (mt_not (mt_chain oLe oLe me_int (me_callBV 0 cLen (by rfl) T.b_len PySem.boot_len) (me_globI T.g_MOST_LETTERS)))))) (mss_one (ms_ret me_bl)) mss_nil)
    (mss_one (ms_ret (me_cmp (oEq hr.units) (me_f G_run_end (hr.mono (by decide)) (ma_cons (me_var 0) (ma_cons me_int (ma_cons (me_globS T.g_LETTERS) ma_nil)))) (me_callBV 0 cLen (by rfl) T.b_len PySem.boot_len)))))
abbrev s_is_number : Stmt := top 12
theorem sc_is_number : FnScope ["word"] ["word"] (defScope s_is_number) := ⟨rfl, rfl, rfl, by decide +kernel, rfl, by decide +kernel, by decide +kernel⟩
theorem ok_is_number {f : Addr} {fd : FuncData} (T : Txt K mg) (G_run_end : Fnn P w K mg base 1 "run_end" ["text", "start", "signs"] f_run_end) (F : Fun K "is_number" "is_number" s_is_number f fd) (hm : mg "is_number" = some (.ref f)) : Fnn P w K mg base 2 "is_number" ["word"] f_is_number := by
  refine fnn (k := 1) F hm sc_is_number (fun _ _ _ _ _ _ us hl => match us, hl with | [_], _ => rfl) (fun cdv A outer s H E hr => ?_)
  exact (mss_cons (ms_if (mt_w (mw_or (mt_not (mt_chain oLe oLe me_int (me_callBV 0 cLen (by rfl) T.b_len PySem.boot_len) (me_globI T.g_MOST_DIGITS))) (mw_or1 (mt_w (mw_and (mt_cmp (oEq hr.units) (me_ixV 0 oIx me_int) me_str) (mw_and1 (mt_cmp oGt (me_callBV 0 cLen (by rfl) T.b_len PySem.boot_len) me_int))))))) (mss_one (ms_ret me_bl)) mss_nil)
    (mss_one (ms_ret (me_cmp (oEq hr.units) (me_f G_run_end (hr.mono (by decide)) (ma_cons (me_var 0) (ma_cons me_int (ma_cons (me_globS T.g_DIGITS) ma_nil)))) (me_callBV 0 cLen (by rfl) T.b_len PySem.boot_len)))))
abbrev s_word_at : Stmt := top 16
theorem sc_word_at : FnScope ["words", "at"] ["words", "at"] (defScope s_word_at) := ⟨rfl, rfl, rfl, by decide +kernel, rfl, by decide +kernel, by decide +kernel⟩
theorem ok_word_at {f : Addr} {fd : FuncData} (T : Txt K mg)  (F : Fun K "word_at" "word_at" s_word_at f fd) (hm : mg "word_at" = some (.ref f)) : Fnn P w K mg base 1 "word_at" ["words", "at"] f_word_at := by
  refine fnn (k := 0) F hm sc_word_at (fun _ _ _ _ _ _ us hl => match us, hl with | [_, _], _ => rfl) (fun cdv A outer s H E hr => ?_)
  exact (mss_cons (ms_if (mt_cmp oLt (me_var 1) (me_callBV 0 cLen (by rfl) T.b_len PySem.boot_len)) (mss_one (ms_ret (me_ixV 0 oIx (me_var 1)))) mss_nil)
    (mss_one (ms_ret me_str)))
abbrev s_signed_at : Stmt := top 17
theorem sc_signed_at : FnScope ["words", "at"] ["words", "at"] (defScope s_signed_at) := ⟨rfl, rfl, rfl, by decide +kernel, rfl, by decide +kernel, by decide +kernel⟩
theorem ok_signed_at {f : Addr} {fd : FuncData} (T : Txt K mg) (G_is_number : Fnn P w K mg base 2 "is_number" ["word"] f_is_number) (G_word_at : Fnn P w K mg base 1 "word_at" ["words", "at"] f_word_at) (F : Fun K "signed_at" "signed_at" s_signed_at f fd) (hm : mg "signed_at" = some (.ref f)) : Fnn P w K mg base 3 "signed_at" ["words", "at"] f_signed_at := by
  refine fnn (k := 2) F hm sc_signed_at (fun _ _ _ _ _ _ us hl => match us, hl with | [_, _], _ => rfl) (fun cdv A outer s H E hr => ?_)
  exact (mss_cons (ms_if (mt_tru (me_f G_is_number (hr.mono (by decide)) (ma_cons (me_f G_word_at (hr.mono (by decide)) (ma_cons (me_var 0) (ma_cons (me_var 1) ma_nil))) ma_nil))) (mss_one (ms_ret (me_tup (ma_cons (me_callT cInt3 (by rfl) T.b_int (by decide +kernel) (me_ixV 0 oIx (me_var 1))) (ma_cons (me_op oAdd (me_var 1) me_int) ma_nil))))) mss_nil)
    (mss_cons (ms_if (mt_w (mw_and (mt_cmp (oEq hr.units) (me_f G_word_at (hr.mono (by decide)) (ma_cons (me_var 0) (ma_cons (me_var 1) ma_nil))) me_str) (mw_and1 (mt_tru (me_f G_is_number (hr.mono (by decide)) (ma_cons (me_f G_word_at (hr.mono (by decide)) (ma_cons (me_var 0) (ma_cons (me_op oAdd (me_var 1) me_int) ma_nil))) ma_nil)))))) (mss_one (ms_ret (me_tup (ma_cons (me_neg (me_callT cInt3 (by rfl) T.b_int (by decide +kernel) (me_ixV 0 oIx (me_op oAdd (me_var 1) me_int)))) (ma_cons (me_op oAdd (me_var 1) me_int) ma_nil))))) mss_nil)
    (mss_one (ms_ret me_non))))
abbrev s_plus_at : Stmt := top 18
theorem sc_plus_at : FnScope ["words", "at"] ["words", "at"] (defScope s_plus_at) := ⟨rfl, rfl, rfl, by decide +kernel, rfl, by decide +kernel, by decide +kernel⟩
theorem ok_plus_at {f : Addr} {fd : FuncData} (T : Txt K mg) (G_is_number : Fnn P w K mg base 2 "is_number" ["word"] f_is_number) (G_word_at : Fnn P w K mg base 1 "word_at" ["words", "at"] f_word_at) (F : Fun K "plus_at" "plus_at" s_plus_at f fd) (hm : mg "plus_at" = some (.ref f)) : Fnn P w K mg base 3 "plus_at" ["words", "at"] f_plus_at := by
  refine fnn (k := 2) F hm sc_plus_at (fun _ _ _ _ _ _ us hl => match us, hl with | [_, _], _ => rfl) (fun cdv A outer s H E hr => ?_)
  exact (mss_cons (ms_if (mt_cmp (oNotIn3 (u65 hr)) (me_f G_word_at (hr.mono (by decide)) (ma_cons (me_var 0) (ma_cons (me_var 1) ma_nil))) (me_tup (ma_cons me_str (ma_cons me_str ma_nil)))) (mss_one (ms_ret (me_tup (ma_cons me_int (ma_cons (me_var 1) ma_nil))))) mss_nil)
    (mss_cons (ms_if (mt_not (mt_tru (me_f G_is_number (hr.mono (by decide)) (ma_cons (me_f G_word_at (hr.mono (by decide)) (ma_cons (me_var 0) (ma_cons (me_op oAdd (me_var 1) me_int) ma_nil))) ma_nil)))) (mss_one (ms_ret me_non)) mss_nil)
    (mss_cons (ms_if (mt_cmp (oEq hr.units) (me_ixV 0 oIx (me_var 1)) me_str) (mss_one (ms_ret (me_tup (ma_cons (me_neg (me_callT cInt3 (by rfl) T.b_int (by decide +kernel) (me_ixV 0 oIx (me_op oAdd (me_var 1) me_int)))) (ma_cons (me_op oAdd (me_var 1) me_int) ma_nil))))) mss_nil)
    (mss_one (ms_ret (me_tup (ma_cons (me_callT cInt3 (by rfl) T.b_int (by decide +kernel) (me_ixV 0 oIx (me_op oAdd (me_var 1) me_int))) (ma_cons (me_op oAdd (me_var 1) me_int) ma_nil))))))))
abbrev s_plain_at : Stmt := top 19
theorem sc_plain_at : FnScope ["words", "at", "number", "plus"] ["words", "at"] (defScope s_plain_at) := ⟨rfl, rfl, rfl, by decide +kernel, rfl, by decide +kernel, by decide +kernel⟩
theorem ok_plain_at {f : Addr} {fd : FuncData} (T : Txt K mg) (G_is_name : Fnn P w K mg base 2 "is_name" ["word"] f_is_name) (G_word_at : Fnn P w K mg base 1 "word_at" ["words", "at"] f_word_at) (G_signed_at : Fnn P w K mg base 3 "signed_at" ["words", "at"] f_signed_at) (G_plus_at : Fnn P w K mg base 3 "plus_at" ["words", "at"] f_plus_at) (F : Fun K "plain_at" "plain_at" s_plain_at f fd) (hm : mg "plain_at" = some (.ref f)) : Fnn P w K mg base 4 "plain_at" ["words", "at"] f_plain_at := by
  refine fnn (k := 3) F hm sc_plain_at (fun _ _ _ _ _ _ us hl => match us, hl with | [_, _], _ => rfl) (fun cdv A outer s H E hr => ?_)
  exact (mss_cons (ms_set 2 sc_plain_at.nd (me_f G_signed_at (hr.mono (by decide)) (ma_cons (me_var 0) (ma_cons (me_var 1) ma_nil))))
    (mss_cons (ms_if (mt_cmp oNotN (me_var 2) me_non) (mss_one (ms_ret (me_tup (ma_cons (me_tup (ma_cons me_str (ma_cons (me_ixV 2 oIx me_int) ma_nil))) (ma_cons (me_ixV 2 oIx me_int) ma_nil))))) mss_nil)
    (mss_cons (ms_if (mt_not (mt_tru (me_f G_is_name (hr.mono (by decide)) (ma_cons (me_f G_word_at (hr.mono (by decide)) (ma_cons (me_var 0) (ma_cons (me_var 1) ma_nil))) ma_nil)))) (mss_one (ms_ret me_non)) mss_nil)
    (mss_cons (ms_set 3 sc_plain_at.nd (me_f G_plus_at (hr.mono (by decide)) (ma_cons (me_var 0) (ma_cons (me_op oAdd (me_var 1) me_int) ma_nil))))
    (mss_cons (ms_if (mt_cmp oIsN (me_var 3) me_non) (mss_one (ms_ret me_non)) mss_nil)
    (mss_one (ms_ret (me_tup (ma_cons (me_tup (ma_cons me_str (ma_cons (me_ixV 0 oIx (me_var 1)) (ma_cons (me_ixV 3 oIx me_int) ma_nil)))) (ma_cons (me_ixV 3 oIx me_int) ma_nil))))))))))
abbrev s_expression_at : Stmt := top 20
theorem sc_expression_at : FnScope ["words", "at", "index", "plus"] ["words", "at"] (defScope s_expression_at) := ⟨rfl, rfl, rfl, by decide +kernel, rfl, by decide +kernel, by decide +kernel⟩
theorem ok_expression_at {f : Addr} {fd : FuncData} (T : Txt K mg) (G_is_name : Fnn P w K mg base 2 "is_name" ["word"] f_is_name) (G_word_at : Fnn P w K mg base 1 "word_at" ["words", "at"] f_word_at) (G_plus_at : Fnn P w K mg base 3 "plus_at" ["words", "at"] f_plus_at) (G_plain_at : Fnn P w K mg base 4 "plain_at" ["words", "at"] f_plain_at) (F : Fun K "expression_at" "expression_at" s_expression_at f fd) (hm : mg "expression_at" = some (.ref f)) : Fnn P w K mg base 5 "expression_at" ["words", "at"] f_expression_at := by
  refine fnn (k := 4) F hm sc_expression_at (fun _ _ _ _ _ _ us hl => match us, hl with | [_, _], _ => rfl) (fun cdv A outer s H E hr => ?_)
  exact (mss_cons (ms_if (mt_w (mw_or (mt_not (mt_tru (me_f G_is_name (hr.mono (by decide)) (ma_cons (me_f G_word_at (hr.mono (by decide)) (ma_cons (me_var 0) (ma_cons (me_var 1) ma_nil))) ma_nil)))) (mw_or1 (mt_cmp (oNe hr.units) (me_f G_word_at (hr.mono (by decide)) (ma_cons (me_var 0) (ma_cons (me_op oAdd (me_var 1) me_int) ma_nil))) me_str)))) (mss_one (ms_ret (me_f G_plain_at (hr.mono (by decide)) (ma_cons (me_var 0) (ma_cons (me_var 1) ma_nil))))) mss_nil)
    (mss_cons (ms_set 2 sc_expression_at.nd (me_f G_plain_at (hr.mono (by decide)) (ma_cons (me_var 0) (ma_cons (me_op oAdd (me_var 1) me_int) ma_nil))))
    (mss_cons (ms_if (mt_w (mw_or (mt_cmp oIsN (me_var 2) me_non) (mw_or1 (mt_cmp (oNe hr.units) (me_f G_word_at (hr.mono (by decide)) (ma_cons (me_var 0) (ma_cons (me_ixV 2 oIx me_int) ma_nil))) me_str)))) (mss_one (ms_ret me_non)) mss_nil)
    (mss_cons (ms_set 3 sc_expression_at.nd (me_f G_plus_at (hr.mono (by decide)) (ma_cons (me_var 0) (ma_cons (me_op oAdd (me_ixV 2 oIx me_int) me_int) ma_nil))))
    (mss_cons (ms_if (mt_cmp oIsN (me_var 3) me_non) (mss_one (ms_ret me_non)) mss_nil)
    (mss_one (ms_ret (me_tup (ma_cons (me_tup (ma_cons me_str (ma_cons (me_ixV 0 oIx (me_var 1)) (ma_cons (me_ixV 2 oIx me_int) (ma_cons (me_ixV 3 oIx me_int) ma_nil))))) (ma_cons (me_ixV 3 oIx me_int) ma_nil))))))))))
abbrev s_comparison_at : Stmt := top 21
theorem sc_comparison_at : FnScope ["words", "at", "left", "right"] ["words", "at"] (defScope s_comparison_at) := ⟨rfl, rfl, rfl, by decide +kernel, rfl, by decide +kernel, by decide +kernel⟩
theorem ok_comparison_at {f : Addr} {fd : FuncData} (T : Txt K mg) (G_word_at : Fnn P w K mg base 1 "word_at" ["words", "at"] f_word_at) (G_expression_at : Fnn P w K mg base 5 "expression_at" ["words", "at"] f_expression_at) (F : Fun K "comparison_at" "comparison_at" s_comparison_at f fd) (hm : mg "comparison_at" = some (.ref f)) : Fnn P w K mg base 6 "comparison_at" ["words", "at"] f_comparison_at := by
  refine fnn (k := 5) F hm sc_comparison_at (fun _ _ _ _ _ _ us hl => match us, hl with | [_, _], _ => rfl) (fun cdv A outer s H E hr => ?_)
  exact (mss_cons (ms_set 2 sc_comparison_at.nd (me_f G_expression_at (hr.mono (by decide)) (ma_cons (me_var 0) (ma_cons (me_var 1) ma_nil))))
    (mss_cons (ms_if (mt_w (mw_or (mt_cmp oIsN (me_var 2) me_non) (mw_or1 (mt_cmp (oNotIn3 (u65 hr)) (me_f G_word_at (hr.mono (by decide)) (ma_cons (me_var 0) (ma_cons (me_ixV 2 oIx me_int) ma_nil))) (me_globT T.g_SIGNS))))) (mss_one (ms_ret me_non)) mss_nil)
    (mss_cons (ms_set 3 sc_comparison_at.nd (me_f G_expression_at (hr.mono (by decide)) (ma_cons (me_var 0) (ma_cons (me_op oAdd (me_ixV 2 oIx me_int) me_int) ma_nil))))
    (mss_cons (ms_if (mt_cmp oIsN (me_var 3) me_non) (mss_one (ms_ret me_non)) mss_nil)
    (mss_one (ms_ret (me_tup (ma_cons (me_tup (ma_cons me_str (ma_cons (me_ixV 0 oIx (me_ixV 2 oIx me_int)) (ma_cons (me_ixV 2 oIx me_int) (ma_cons (me_ixV 3 oIx me_int) ma_nil))))) (ma_cons (me_ixV 3 oIx me_int) ma_nil)))))))))
abbrev s_joined : Stmt := top 23
theorem sc_joined : FnScope ["word", "parts"] ["word", "parts"] (defScope s_joined) := ⟨rfl, rfl, rfl, by decide +kernel, rfl, by decide +kernel, by decide +kernel⟩
theorem ok_joined {f : Addr} {fd : FuncData} (T : Txt K mg)  (F : Fun K "joined" "joined" s_joined f fd) (hm : mg "joined" = some (.ref f)) : Fnn P w K mg base 1 "joined" ["word", "parts"] f_joined := by
  refine fnn (k := 0) F hm sc_joined (fun _ _ _ _ _ _ us hl => match us, hl with | [_, _], _ => rfl) (fun cdv A outer s H E hr => ?_)
  exact (mss_cons (ms_if (mt_cmp (oEq hr.units) (me_callBV 1 cLen (by rfl) T.b_len PySem.boot_len) me_int) (mss_one (ms_ret (me_ixV 1 oIx me_int))) mss_nil)
    (mss_one (ms_ret (me_tup (ma_cons (me_var 0) (ma_cons (me_callTV 1 cTuple (by rfl) T.b_tuple (by decide +kernel)) ma_nil))))))
abbrev s_part_at : Stmt := top 22
theorem sc_part_at : FnScope ["words", "at", "opened", "word", "part"] ["words", "at", "opened"] (defScope s_part_at) := ⟨rfl, rfl, rfl, by decide +kernel, rfl, by decide +kernel, by decide +kernel⟩
abbrev s_and_at : Stmt := top 24
theorem sc_and_at : FnScope ["words", "at", "opened", "part", "parts"] ["words", "at", "opened"] (defScope s_and_at) := ⟨rfl, rfl, rfl, by decide +kernel, rfl, by decide +kernel, by decide +kernel⟩
abbrev s_or_at : Stmt := top 25
theorem sc_or_at : FnScope ["words", "at", "opened", "part", "parts"] ["words", "at", "opened"] (defScope s_or_at) := ⟨rfl, rfl, rfl, by decide +kernel, rfl, by decide +kernel, by decide +kernel⟩
theorem ok_scc_part_at {f0 : Addr} {fd0 : FuncData} {f1 : Addr} {fd1 : FuncData} {f2 : Addr} {fd2 : FuncData} (T : Txt K mg) (G_word_at : Fnn P w K mg base 1 "word_at" ["words", "at"] f_word_at) (G_comparison_at : Fnn P w K mg base 6 "comparison_at" ["words", "at"] f_comparison_at) (G_joined : Fnn P w K mg base 1 "joined" ["word", "parts"] f_joined) (F0 : Fun K "part_at" "part_at" s_part_at f0 fd0) (hm0 : mg "part_at" = some (.ref f0)) (F1 : Fun K "and_at" "and_at" s_and_at f1 fd1) (hm1 : mg "and_at" = some (.ref f1)) (F2 : Fun K "or_at" "or_at" s_or_at f2 fd2) (hm2 : mg "or_at" = some (.ref f2)) (n : Nat) : Fnn P w K mg base (7 + n) "part_at" ["words", "at", "opened"] (f_part_at n) ∧ Fnn P w K mg base (7 + n) "and_at" ["words", "at", "opened"] (f_and_at n) ∧ Fnn P w K mg base (7 + n) "or_at" ["words", "at", "opened"] (f_or_at n) := by
  induction n with
  | zero => exact ⟨fnn (k := 6) F0 hm0 sc_part_at (fun _ _ _ _ _ _ us hl => match us, hl with | [_, _, _], _ => rfl) (fun cdv A outer s H E hr => mss_none), fnn (k := 6) F1 hm1 sc_and_at (fun _ _ _ _ _ _ us hl => match us, hl with | [_, _, _], _ => rfl) (fun cdv A outer s H E hr => mss_none), fnn (k := 6) F2 hm2 sc_or_at (fun _ _ _ _ _ _ us hl => match us, hl with | [_, _, _], _ => rfl) (fun cdv A outer s H E hr => mss_none)⟩
  | succ n ih =>
    obtain ⟨G_rec_part_at, G_rec_and_at, G_rec_or_at⟩ := ih
    refine ⟨fnn (k := 7 + n) F0 hm0 sc_part_at (fun _ _ _ _ _ _ us hl => match us, hl with | [_, _, _], _ => rfl) (fun cdv A outer s H E hr => ?_), fnn (k := 7 + n) F1 hm1 sc_and_at (fun _ _ _ _ _ _ us hl => match us, hl with | [_, _, _], _ => rfl) (fun cdv A outer s H E hr => ?_), fnn (k := 7 + n) F2 hm2 sc_or_at (fun _ _ _ _ _ _ us hl => match us, hl with | [_, _, _], _ => rfl) (fun cdv A outer s H E hr => ?_)⟩
    · exact (mss_cons (ms_set 3 sc_part_at.nd (me_f G_word_at (hr.mono (by omega)) (ma_cons (me_var 0) (ma_cons (me_var 1) ma_nil))))
    (mss_cons (ms_if (mt_cmp (oNotIn3 (u65 hr)) (me_var 3) (me_tup (ma_cons me_str (ma_cons me_str ma_nil)))) (mss_one (ms_ret (me_f G_comparison_at (hr.mono (by omega)) (ma_cons (me_var 0) (ma_cons (me_var 1) ma_nil))))) mss_nil)
    (mss_cons (ms_if (mt_cmp (oEq hr.units) (me_var 2) (me_globI T.g_MOST_OPEN)) (mss_one (ms_ret me_non)) mss_nil)
    (mss_cons (ms_if (mt_cmp (oEq hr.units) (me_var 3) me_str) (mss_cons (ms_set 4 sc_part_at.nd (me_f G_rec_part_at (hr.mono (Nat.le_refl _)) (ma_cons (me_var 0) (ma_cons (me_op oAdd (me_var 1) me_int) (ma_cons (me_op oAdd (me_var 2) me_int) ma_nil)))))
    (mss_cons (ms_if (mt_cmp oIsN (me_var 4) me_non) (mss_one (ms_ret me_non)) mss_nil)
    (mss_one (ms_ret (me_tup (ma_cons (me_tup (ma_cons me_str (ma_cons (me_ixV 4 oIx me_int) ma_nil))) (ma_cons (me_ixV 4 oIx me_int) ma_nil))))))) mss_nil)
    (mss_cons (ms_set 4 sc_part_at.nd (me_f G_rec_or_at (hr.mono (Nat.le_refl _)) (ma_cons (me_var 0) (ma_cons (me_op oAdd (me_var 1) me_int) (ma_cons (me_op oAdd (me_var 2) me_int) ma_nil)))))
    (mss_cons (ms_if (mt_w (mw_or (mt_cmp oIsN (me_var 4) me_non) (mw_or1 (mt_cmp (oNe hr.units) (me_f G_word_at (hr.mono (by omega)) (ma_cons (me_var 0) (ma_cons (me_ixV 4 oIx me_int) ma_nil))) me_str)))) (mss_one (ms_ret me_non)) mss_nil)
    (mss_one (ms_ret (me_tup (ma_cons (me_ixV 4 oIx me_int) (ma_cons (me_op oAdd (me_ixV 4 oIx me_int) me_int) ma_nil)))))))))))
    · exact (mss_cons (ms_set 3 sc_and_at.nd (me_f G_rec_part_at (hr.mono (Nat.le_refl _)) (ma_cons (me_var 0) (ma_cons (me_var 1) (ma_cons (me_var 2) ma_nil)))))
    (mss_cons (ms_if (mt_cmp oIsN (me_var 3) me_non) (mss_one (ms_ret me_non)) mss_nil)
    (mss_cons (ms_own 4 sc_and_at.nd (mf_lst (ma_cons (me_ixV 3 oIx me_int) ma_nil)))
    (mss_cons (ms_while (mt_cmp (oEq hr.units) (me_f G_word_at (hr.mono (by omega)) (ma_cons (me_var 0) (ma_cons (me_ixV 3 oIx me_int) ma_nil))) me_str) (mss_cons (ms_set 3 sc_and_at.nd (me_f G_rec_part_at (hr.mono (Nat.le_refl _)) (ma_cons (me_var 0) (ma_cons (me_op oAdd (me_ixV 3 oIx me_int) me_int) (ma_cons (me_var 2) ma_nil)))))
    (mss_cons (ms_if (mt_cmp oIsN (me_var 3) me_non) (mss_one (ms_ret me_non)) mss_nil)
    (mss_one (ms_expr (me_app 4 (me_ixV 3 oIx me_int)))))))
    (mss_one (ms_ret (me_tup (ma_cons (me_f G_joined (hr.mono (by omega)) (ma_cons me_str (ma_cons (me_var 4) ma_nil))) (ma_cons (me_ixV 3 oIx me_int) ma_nil)))))))))
    · exact (mss_cons (ms_set 3 sc_or_at.nd (me_f G_rec_and_at (hr.mono (Nat.le_refl _)) (ma_cons (me_var 0) (ma_cons (me_var 1) (ma_cons (me_var 2) ma_nil)))))
    (mss_cons (ms_if (mt_cmp oIsN (me_var 3) me_non) (mss_one (ms_ret me_non)) mss_nil)
    (mss_cons (ms_own 4 sc_or_at.nd (mf_lst (ma_cons (me_ixV 3 oIx me_int) ma_nil)))
    (mss_cons (ms_while (mt_cmp (oEq hr.units) (me_f G_word_at (hr.mono (by omega)) (ma_cons (me_var 0) (ma_cons (me_ixV 3 oIx me_int) ma_nil))) me_str) (mss_cons (ms_set 3 sc_or_at.nd (me_f G_rec_and_at (hr.mono (Nat.le_refl _)) (ma_cons (me_var 0) (ma_cons (me_op oAdd (me_ixV 3 oIx me_int) me_int) (ma_cons (me_var 2) ma_nil)))))
    (mss_cons (ms_if (mt_cmp oIsN (me_var 3) me_non) (mss_one (ms_ret me_non)) mss_nil)
    (mss_one (ms_expr (me_app 4 (me_ixV 3 oIx me_int)))))))
    (mss_one (ms_ret (me_tup (ma_cons (me_f G_joined (hr.mono (by omega)) (ma_cons me_str (ma_cons (me_var 4) ma_nil))) (ma_cons (me_ixV 3 oIx me_int) ma_nil)))))))))
abbrev s_made_of_all : Stmt := top 26
theorem sc_made_of_all : FnScope ["read", "words"] ["read", "words"] (defScope s_made_of_all) := ⟨rfl, rfl, rfl, by decide +kernel, rfl, by decide +kernel, by decide +kernel⟩
theorem ok_made_of_all {f : Addr} {fd : FuncData} (T : Txt K mg)  (F : Fun K "made_of_all" "made_of_all" s_made_of_all f fd) (hm : mg "made_of_all" = some (.ref f)) : Fnn P w K mg base 1 "made_of_all" ["read", "words"] f_made_of_all := by
  refine fnn (k := 0) F hm sc_made_of_all (fun _ _ _ _ _ _ us hl => match us, hl with | [_, _], _ => rfl) (fun cdv A outer s H E hr => ?_)
  exact (mss_cons (ms_if (mt_w (mw_or (mt_cmp oIsN (me_var 0) me_non) (mw_or1 (mt_cmp (oNe hr.units) (me_ixV 0 oIx me_int) (me_callBV 1 cLen (by rfl) T.b_len PySem.boot_len))))) (mss_one (ms_ret me_non)) mss_nil)
    (mss_one (ms_ret (me_ixV 0 oIx me_int))))
abbrev s_condition_of : Stmt := top 27
theorem sc_condition_of : FnScope ["words"] ["words"] (defScope s_condition_of) := ⟨rfl, rfl, rfl, by decide +kernel, rfl, by decide +kernel, by decide +kernel⟩
theorem ok_condition_of {f : Addr} {fd : FuncData} (T : Txt K mg) (G_or_at : Fnn P w K mg base 55 "or_at" ["words", "at", "opened"] (f_or_at 48)) (G_made_of_all : Fnn P w K mg base 1 "made_of_all" ["read", "words"] f_made_of_all) (F : Fun K "condition_of" "condition_of" s_condition_of f fd) (hm : mg "condition_of" = some (.ref f)) : Fnn P w K mg base 56 "condition_of" ["words"] f_condition_of := by
  refine fnn (k := 55) F hm sc_condition_of (fun _ _ _ _ _ _ us hl => match us, hl with | [_], _ => rfl) (fun cdv A outer s H E hr => ?_)
  exact (mss_one (ms_ret (me_f G_made_of_all (hr.mono (by decide)) (ma_cons (me_f G_or_at (hr.mono (by decide)) (ma_cons (me_var 0) (ma_cons me_int (ma_cons me_int ma_nil)))) (ma_cons (me_var 0) ma_nil)))))
abbrev s_read_condition : Stmt := top 28
theorem sc_read_condition : FnScope ["text", "words"] ["text"] (defScope s_read_condition) := ⟨rfl, rfl, rfl, by decide +kernel, rfl, by decide +kernel, by decide +kernel⟩
theorem ok_read_condition {f : Addr} {fd : FuncData} (T : Txt K mg) (G_split_row : Fnn P w K mg base 3 "split_row" ["text"] f_split_row) (G_condition_of : Fnn P w K mg base 56 "condition_of" ["words"] f_condition_of) (F : Fun K "read_condition" "read_condition" s_read_condition f fd) (hm : mg "read_condition" = some (.ref f)) : Fnn P w K mg base 57 "read_condition" ["text"] f_read_condition := by
  refine fnn (k := 56) F hm sc_read_condition (fun _ _ _ _ _ _ us hl => match us, hl with | [_], _ => rfl) (fun cdv A outer s H E hr => ?_)
  exact (mss_cons (ms_set 1 sc_read_condition.nd (me_f G_split_row (hr.mono (by decide)) (ma_cons (me_var 0) ma_nil)))
    (mss_cons (ms_if (mt_cmp oIsN (me_var 1) me_non) (mss_one (ms_ret me_non)) mss_nil)
    (mss_one (ms_ret (me_f G_condition_of (hr.mono (by decide)) (ma_cons (me_var 1) ma_nil))))))
abbrev s_write_plus : Stmt := top 29
theorem sc_write_plus : FnScope ["plus"] ["plus"] (defScope s_write_plus) := ⟨rfl, rfl, rfl, by decide +kernel, rfl, by decide +kernel, by decide +kernel⟩
theorem ok_write_plus {f : Addr} {fd : FuncData} (T : Txt K mg)  (F : Fun K "write_plus" "write_plus" s_write_plus f fd) (hm : mg "write_plus" = some (.ref f)) : Fnn P w K mg base 1 "write_plus" ["plus"] f_write_plus := by
  refine fnn (k := 0) F hm sc_write_plus (fun _ _ _ _ _ _ us hl => match us, hl with | [_], _ => rfl) (fun cdv A outer s H E hr => ?_)
  exact (mss_cons (ms_if (mt_cmp oGt (me_var 0) me_int) (mss_one (ms_ret (me_op oAdd me_str (me_callTV 0 cStr (by rfl) T.b_str (by decide +kernel))))) mss_nil)
    (mss_cons (ms_if (mt_cmp oLt (me_var 0) me_int) (mss_one (ms_ret (me_op oAdd me_str (me_callT cStr (by rfl) T.b_str (by decide +kernel) (me_neg (me_var 0)))))) mss_nil)
    (mss_one (ms_ret me_str))))
abbrev s_write_expression : Stmt := top 30
theorem sc_write_expression : FnScope ["expression"] ["expression"] (defScope s_write_expression) := ⟨rfl, rfl, rfl, by decide +kernel, rfl, by decide +kernel, by decide +kernel⟩
theorem ok_write_expression {f : Addr} {fd : FuncData} (T : Txt K mg) (G_write_plus : Fnn P w K mg base 1 "write_plus" ["plus"] f_write_plus) (F : Fun K "write_expression" "write_expression" s_write_expression f fd) (hm : mg "write_expression" = some (.ref f)) (n : Nat) : Fnn P w K mg base (2 + n) "write_expression" ["expression"] (f_write_expression n) := by
  induction n with
  | zero => exact fnn (k := 1) F hm sc_write_expression (fun _ _ _ _ _ _ us hl => match us, hl with | [_], _ => rfl) (fun cdv A outer s H E hr => mss_none)
  | succ n G_rec =>
    refine fnn (k := 2 + n) F hm sc_write_expression (fun _ _ _ _ _ _ us hl => match us, hl with | [_], _ => rfl) (fun cdv A outer s H E hr => ?_)
    exact (mss_cons (ms_if (mt_cmp (oEq hr.units) (me_ixV 0 oIx me_int) me_str) (mss_one (ms_ret (me_callT cStr (by rfl) T.b_str (by decide +kernel) (me_ixV 0 oIx me_int)))) mss_nil)
    (mss_cons (ms_if (mt_cmp (oEq hr.units) (me_ixV 0 oIx me_int) me_str) (mss_one (ms_ret (me_op oAdd (me_ixV 0 oIx me_int) (me_f G_write_plus (hr.mono (by omega)) (ma_cons (me_ixV 0 oIx me_int) ma_nil))))) mss_nil)
    (mss_one (ms_ret (me_op oAdd (me_op oAdd (me_op oAdd (me_op oAdd (me_ixV 0 oIx me_int) me_str) (me_f G_rec (hr.mono (Nat.le_refl _)) (ma_cons (me_ixV 0 oIx me_int) ma_nil))) me_str) (me_f G_write_plus (hr.mono (by omega)) (ma_cons (me_ixV 0 oIx me_int) ma_nil)))))))
abbrev s_write_part : Stmt := top 31
theorem sc_write_part : FnScope ["condition", "wrapped"] ["condition", "wrapped"] (defScope s_write_part) := ⟨rfl, rfl, rfl, by decide +kernel, rfl, by decide +kernel, by decide +kernel⟩
abbrev s_write_condition : Stmt := top 32
theorem sc_write_condition : FnScope ["condition", "part"] ["condition"] (defScope s_write_condition) := ⟨rfl, rfl, rfl, by decide +kernel, rfl, by decide +kernel, by decide +kernel⟩
theorem ok_scc_write_part {f0 : Addr} {fd0 : FuncData} {f1 : Addr} {fd1 : FuncData} (T : Txt K mg) (G_write_expression : Fnn P w K mg base 50 "write_expression" ["expression"] (f_write_expression 48)) (F0 : Fun K "write_part" "write_part" s_write_part f0 fd0) (hm0 : mg "write_part" = some (.ref f0)) (F1 : Fun K "write_condition" "write_condition" s_write_condition f1 fd1) (hm1 : mg "write_condition" = some (.ref f1)) (n : Nat) : Fnn P w K mg base (51 + n) "write_part" ["condition", "wrapped"] (f_write_part n) ∧ Fnn P w K mg base (51 + n) "write_condition" ["condition"] (f_write_condition n) := by
  induction n with
  | zero => exact ⟨fnn (k := 50) F0 hm0 sc_write_part (fun _ _ _ _ _ _ us hl => match us, hl with | [_, _], _ => rfl) (fun cdv A outer s H E hr => mss_none), fnn (k := 50) F1 hm1 sc_write_condition (fun _ _ _ _ _ _ us hl => match us, hl with | [_], _ => rfl) (fun cdv A outer s H E hr => mss_none)⟩
  | succ n ih =>
    obtain ⟨G_rec_write_part, G_rec_write_condition⟩ := ih
    refine ⟨fnn (k := 51 + n) F0 hm0 sc_write_part (fun _ _ _ _ _ _ us hl => match us, hl with | [_, _], _ => rfl) (fun cdv A outer s H E hr => ?_), fnn (k := 51 + n) F1 hm1 sc_write_condition (fun _ _ _ _ _ _ us hl => match us, hl with | [_], _ => rfl) (fun cdv A outer s H E hr => ?_)⟩
    · exact (mss_cons (ms_if (mt_cmpR 1 (oIn3 (u65 hr)) (me_ixV 0 oIx me_int)) (mss_one (ms_ret (me_op oAdd (me_op oAdd me_str (me_f G_rec_write_condition (hr.mono (Nat.le_refl _)) (ma_cons (me_var 0) ma_nil))) me_str))) mss_nil)
    (mss_one (ms_ret (me_f G_rec_write_condition (hr.mono (Nat.le_refl _)) (ma_cons (me_var 0) ma_nil)))))
    · exact (mss_cons (ms_if (mt_cmp (oEq hr.units) (me_ixV 0 oIx me_int) me_str) (mss_one (ms_ret (me_op oAdd (me_op oAdd (me_op oAdd (me_op oAdd (me_f G_write_expression (hr.mono (by omega)) (ma_cons (me_ixV 0 oIx me_int) ma_nil)) me_str) (me_ixV 0 oIx me_int)) me_str) (me_f G_write_expression (hr.mono (by omega)) (ma_cons (me_ixV 0 oIx me_int) ma_nil))))) mss_nil)
    (mss_cons (ms_if (mt_cmp (oEq hr.units) (me_ixV 0 oIx me_int) me_str) (mss_one (ms_ret (me_op oAdd me_str (me_f G_rec_write_part (hr.mono (Nat.le_refl _)) (ma_cons (me_ixV 0 oIx me_int) (ma_cons (me_tup (ma_cons me_str (ma_cons me_str ma_nil))) ma_nil)))))) mss_nil)
    (mss_cons (ms_if (mt_cmp (oEq hr.units) (me_ixV 0 oIx me_int) me_str) (mss_one (ms_ret (me_join me_str (me_new (mf_lc rfl sc_write_condition.nd (mi_seq (me_ixV 0 oIx me_int)) (blkOk_by (own := [("part", 1)]) (N := ["condition", "part"]) (sc := defScope s_write_condition) (by decide +kernel)) (fun _ _ _ _ _ => (mgk_name 1 sc_write_condition.nd)) (fun _ _ _ _ _ => mts_nil) (fun _ _ _ _ _ => (me_f G_rec_write_part (hr.mono (Nat.le_refl _)) (ma_cons (me_var 1) (ma_cons (me_tup (ma_cons me_str (ma_cons me_str ma_nil))) ma_nil))))))))) mss_nil)
    (mss_one (ms_ret (me_join me_str (me_new (mf_lc rfl sc_write_condition.nd (mi_seq (me_ixV 0 oIx me_int)) (blkOk_by (own := [("part", 1)]) (N := ["condition", "part"]) (sc := defScope s_write_condition) (by decide +kernel)) (fun _ _ _ _ _ => (mgk_name 1 sc_write_condition.nd)) (fun _ _ _ _ _ => mts_nil) (fun _ _ _ _ _ => (me_f G_rec_write_part (hr.mono (Nat.le_refl _)) (ma_cons (me_var 1) (ma_cons (me_tup (ma_cons me_str ma_nil)) ma_nil))))))))))))
abbrev s_law_draws : Stmt := top 34
theorem sc_law_draws : FnScope ["_law_script", "_law_many_here", "_law_rests", "_law_draws_here", "_law_k", "_law_cell", "_law_at", "_law_mixed"] ["_law_script", "_law_many_here"] (defScope s_law_draws) := ⟨rfl, rfl, rfl, by decide +kernel, rfl, by decide +kernel, by decide +kernel⟩
theorem ok_law_draws {f : Addr} {fd : FuncData} (T : Txt K mg)  (F : Fun K "_law_draws" "_law_draws" s_law_draws f fd) (hm : mg "_law_draws" = some (.ref f)) : Fnn P w K mg base 1 "_law_draws" ["_law_script", "_law_many_here"] f_law_draws := by
  refine fnn (k := 0) F hm sc_law_draws (fun _ _ _ _ _ _ us hl => match us, hl with | [_, _], _ => rfl) (fun cdv A outer s H E hr => ?_)
  exact (mss_cons (ms_ownLc 2 rfl sc_law_draws.nd (mi_seq (me_var 0)) (blkOk_by (own := [("_law_cell", 5)]) (N := ["_law_script", "_law_many_here", "_law_rests", "_law_draws_here", "_law_k", "_law_cell", "_law_at", "_law_mixed"]) (sc := defScope s_law_draws) (by decide +kernel)) (fun _ _ _ _ _ => (mgk_name 5 sc_law_draws.nd)) (fun _ _ _ _ _ => mts_nil) (fun _ _ _ _ _ => (me_callB cAbs (by rfl) T.b_abs (by decide +kernel) (me_callTV 5 cInt3 (by rfl) T.b_int (by decide +kernel)))) (sw_true rfl rfl rfl (by decide +kernel)))
    (mss_cons (ms_own 3 sc_law_draws.nd (mf_lst ma_nil))
    (mss_cons (ms_for rfl (mi_rg1 (by rfl) T.b_range (me_var 1)) (mg_name 4 sc_law_draws.nd) (mss_cons (ms_set 5 sc_law_draws.nd (me_var 4))
    (mss_cons (ms_if (mt_cmp oGt (me_callBV 0 cLen (by rfl) T.b_len PySem.boot_len) me_int) (mss_cons (ms_set 6 sc_law_draws.nd (me_op oMod (me_var 4) (me_callBV 0 cLen (by rfl) T.b_len PySem.boot_len)))
    (mss_cons (ms_set 5 sc_law_draws.nd (me_callT cInt3 (by rfl) T.b_int (by decide +kernel) (me_ixV 0 oIx (me_var 6))))
    (mss_one (ms_if (mt_w (mw_and (mt_cmp oGe (me_var 5) (me_op oPow me_int me_int)) (mw_and1 (mt_cmp oGt (me_ixV 2 oIx (me_var 6)) me_int)))) (mss_cons (ms_expr (me_app 3 (me_op oMod (me_callT cInt3 (by rfl) T.b_int (by decide +kernel) (me_ixV 2 oIx (me_var 6))) me_int)))
    (mss_cons (ms_asg (me_op oDiv (me_callT cInt3 (by rfl) T.b_int (by decide +kernel) (me_ixV 2 oIx (me_var 6))) me_int) (mg_sub 2 (me_var 6)))
    (mss_one ms_cont))) mss_nil)))) mss_nil)
    (mss_cons (ms_set 7 sc_law_draws.nd (me_op oMod (me_callT cInt3 (by rfl) T.b_int (by decide +kernel) (me_op oAdd (me_op oAdd (me_op oMul4 (me_var 5) me_int) (me_op oMul4 (me_var 4) me_int)) me_int)) me_int))
    (mss_cons (ms_set 7 sc_law_draws.nd (me_op oMod (me_callT cInt3 (by rfl) T.b_int (by decide +kernel) (me_op oAdd (me_op oDiv (me_op oMul4 (me_var 7) (me_var 7)) me_int) (me_var 7))) me_int))
    (mss_one (ms_expr (me_app 3 (me_op oMod (me_callT cInt3 (by rfl) T.b_int (by decide +kernel) (me_op oAdd (me_op oDiv (me_op oMul4 (me_var 7) (me_var 7)) me_int) (me_op oMul4 (me_var 4) me_int))) me_int)))))))))
    (mss_one (ms_ret (me_var 3))))))
abbrev s_law_take : Stmt := top 35
theorem sc_law_take : FnScope ["_law_hand", "_law_many_here", "_law_at", "_law_draws_here"] ["_law_hand", "_law_many_here"] (defScope s_law_take) := ⟨rfl, rfl, rfl, by decide +kernel, rfl, by decide +kernel, by decide +kernel⟩
theorem ok_law_take {f : Addr} {fd : FuncData} (T : Txt K mg)  (F : Fun K "_law_take" "_law_take" s_law_take f fd) (hm : mg "_law_take" = some (.ref f)) : Fnn P w K mg base 1 "_law_take" ["_law_hand", "_law_many_here"] f_law_take := by
  refine fnn (k := 0) F hm sc_law_take (fun _ _ _ _ _ _ us hl => match us, hl with | [_, _], _ => rfl) (fun cdv A outer s H E hr => ?_)
  exact (mss_cons (ms_set 2 sc_law_take.nd (me_ixV 0 oIx me_int))
    (mss_cons (ms_asg (me_op oAdd (me_var 2) me_int) (mg_sub 0 me_int))
    (mss_cons (ms_set 3 sc_law_take.nd (me_ixV 0 oIx me_int))
    (mss_cons (ms_if (mt_cmp oGe (me_var 2) (me_callBV 3 cLen (by rfl) T.b_len PySem.boot_len)) (mss_one (ms_ret me_int)) mss_nil)
    (mss_one (ms_ret (me_op oMod (me_op oDiv (me_callT cInt3 (by rfl) T.b_int (by decide +kernel) (me_ixV 3 oIx (me_var 2))) me_int) (me_var 1))))))))
abbrev s_law_letters : Stmt := top 36
theorem sc_law_letters : FnScope [] [] (defScope s_law_letters) := ⟨rfl, rfl, rfl, by decide +kernel, rfl, by decide +kernel, by decide +kernel⟩
theorem ok_law_letters {f : Addr} {fd : FuncData} (T : Txt K mg)  (F : Fun K "_law_letters" "_law_letters" s_law_letters f fd) (hm : mg "_law_letters" = some (.ref f)) : Fnn P w K mg base 1 "_law_letters" [] f_law_letters := by
  refine fnn (k := 0) F hm sc_law_letters (fun _ _ _ _ _ _ us hl => match us, hl with | [], _ => rfl) (fun cdv A outer s H E hr => ?_)
  exact (mss_one (ms_ret me_str))
abbrev s_law_reserved : Stmt := top 37
theorem sc_law_reserved : FnScope ["_law_words"] [] (defScope s_law_reserved) := ⟨rfl, rfl, rfl, by decide +kernel, rfl, by decide +kernel, by decide +kernel⟩
theorem ok_law_reserved {f : Addr} {fd : FuncData} (T : Txt K mg)  (F : Fun K "_law_reserved" "_law_reserved" s_law_reserved f fd) (hm : mg "_law_reserved" = some (.ref f)) : Fnn P w K mg base 1 "_law_reserved" [] f_law_reserved := by
  refine fnn (k := 0) F hm sc_law_reserved (fun _ _ _ _ _ _ us hl => match us, hl with | [], _ => rfl) (fun cdv A outer s H E hr => ?_)
  exact (mss_cons (ms_set 0 sc_law_reserved.nd (me_new (mf_lst (ma_cons me_str (ma_cons me_str (ma_cons me_str (ma_cons me_str (ma_cons me_str (ma_cons me_str (ma_cons me_str (ma_cons me_str (ma_cons me_str (ma_cons me_str (ma_cons me_str (ma_cons me_str (ma_cons me_str (ma_cons me_str ma_nil)))))))))))))))))
    (mss_one (ms_ret (me_op oAdd (me_var 0) (me_new (mf_lst (ma_cons me_str (ma_cons me_str (ma_cons me_str (ma_cons me_str (ma_cons me_str (ma_cons me_str (ma_cons me_str (ma_cons me_str (ma_cons me_str (ma_cons me_str (ma_cons me_str (ma_cons me_str (ma_cons me_str ma_nil)))))))))))))))))))
abbrev s_law_is_name : Stmt := top 38
theorem sc_law_is_name : FnScope ["_law_word", "_law_char"] ["_law_word"] (defScope s_law_is_name) := ⟨rfl, rfl, rfl, by decide +kernel, rfl, by decide +kernel, by decide +kernel⟩
theorem ok_law_is_name {f : Addr} {fd : FuncData} (T : Txt K mg) (G_law_letters : Fnn P w K mg base 1 "_law_letters" [] f_law_letters) (G_law_reserved : Fnn P w K mg base 1 "_law_reserved" [] f_law_reserved) (F : Fun K "_law_is_name" "_law_is_name" s_law_is_name f fd) (hm : mg "_law_is_name" = some (.ref f)) : Fnn P w K mg base 2 "_law_is_name" ["_law_word"] f_law_is_name := by
  refine fnn (k := 1) F hm sc_law_is_name (fun _ _ _ _ _ _ us hl => match us, hl with | [_], _ => rfl) (fun cdv A outer s H E hr => ?_)
  exact (mss_cons (ms_if (mt_w (mw_or (mt_cmp oLt (me_callBV 0 cLen (by rfl) T.b_len PySem.boot_len) me_int) (mw_or (mt_cmp oGt (me_callBV 0 cLen (by rfl) T.b_len PySem.boot_len) me_int) (mw_or1 (mt_cmp (oIn3 (u65 hr)) (me_var 0) (me_f0 G_law_reserved (hr.mono (by decide)))))))) (mss_one (ms_ret me_bl)) mss_nil)
    (mss_cons (ms_for rfl (mi_str (me_var 0)) (mg_name 1 sc_law_is_name.nd) (mss_one (ms_if (mt_cmp (oNotIn3 (u65 hr)) (me_var 1) (me_f0 G_law_letters (hr.mono (by decide)))) (mss_one (ms_ret me_bl)) mss_nil)))
    (mss_one (ms_ret me_bl))))
abbrev s_law_is_number : Stmt := top 39
theorem sc_law_is_number : FnScope ["_law_word", "_law_char"] ["_law_word"] (defScope s_law_is_number) := ⟨rfl, rfl, rfl, by decide +kernel, rfl, by decide +kernel, by decide +kernel⟩
theorem ok_law_is_number {f : Addr} {fd : FuncData} (T : Txt K mg)  (F : Fun K "_law_is_number" "_law_is_number" s_law_is_number f fd) (hm : mg "_law_is_number" = some (.ref f)) : Fnn P w K mg base 1 "_law_is_number" ["_law_word"] f_law_is_number := by
  refine fnn (k := 0) F hm sc_law_is_number (fun _ _ _ _ _ _ us hl => match us, hl with | [_], _ => rfl) (fun cdv A outer s H E hr => ?_)
  exact (mss_cons (ms_if (mt_w (mw_or (mt_cmp oLt (me_callBV 0 cLen (by rfl) T.b_len PySem.boot_len) me_int) (mw_or (mt_cmp oGt (me_callBV 0 cLen (by rfl) T.b_len PySem.boot_len) me_int) (mw_or1 (mt_w (mw_and (mt_cmp oGt (me_callBV 0 cLen (by rfl) T.b_len PySem.boot_len) me_int) (mw_and1 (mt_cmp (oEq hr.units) (me_ixV 0 oIx me_int) me_str)))))))) (mss_one (ms_ret me_bl)) mss_nil)
    (mss_cons (ms_for rfl (mi_str (me_var 0)) (mg_name 1 sc_law_is_number.nd) (mss_one (ms_if (mt_cmp (oNotIn3 (u65 hr)) (me_var 1) me_str) (mss_one (ms_ret me_bl)) mss_nil)))
    (mss_one (ms_ret me_bl))))
abbrev s_law_simple : Stmt := top 40
theorem sc_law_simple : FnScope ["_law_hand", "_law_kind", "_law_index"] ["_law_hand"] (defScope s_law_simple) := ⟨rfl, rfl, rfl, by decide +kernel, rfl, by decide +kernel, by decide +kernel⟩
theorem ok_law_simple {f : Addr} {fd : FuncData} (T : Txt K mg) (G_law_take : Fnn P w K mg base 1 "_law_take" ["_law_hand", "_law_many_here"] f_law_take) (F : Fun K "_law_simple" "_law_simple" s_law_simple f fd) (hm : mg "_law_simple" = some (.ref f)) : Fnn P w K mg base 2 "_law_simple" ["_law_hand"] f_law_simple := by
  refine fnn (k := 1) F hm sc_law_simple (fun _ _ _ _ _ _ us hl => match us, hl with | [_], _ => rfl) (fun cdv A outer s H E hr => ?_)
  exact (mss_cons (ms_set 1 sc_law_simple.nd (me_f G_law_take (hr.mono (by decide)) (ma_cons (me_var 0) (ma_cons me_int ma_nil))))
    (mss_cons (ms_if (mt_cmp oLt (me_var 1) me_int) (mss_one (ms_ret (me_tup (ma_cons me_str (ma_cons (me_op oSub (me_f G_law_take (hr.mono (by decide)) (ma_cons (me_var 0) (ma_cons me_int ma_nil))) me_int) ma_nil))))) mss_nil)
    (mss_cons (ms_if (mt_cmp oLt (me_var 1) me_int) (mss_one (ms_ret (me_tup (ma_cons me_str (ma_cons (me_ix oIx (me_new (mf_lst (ma_cons me_str (ma_cons me_str (ma_cons me_str (ma_cons me_str (ma_cons me_str (ma_cons me_str ma_nil)))))))) (me_f G_law_take (hr.mono (by decide)) (ma_cons (me_var 0) (ma_cons me_int ma_nil)))) (ma_cons (me_op oSub (me_f G_law_take (hr.mono (by decide)) (ma_cons (me_var 0) (ma_cons me_int ma_nil))) me_int) ma_nil)))))) mss_nil)
    (mss_cons (ms_set 2 sc_law_simple.nd (me_tup (ma_cons me_str (ma_cons (me_op oSub (me_f G_law_take (hr.mono (by decide)) (ma_cons (me_var 0) (ma_cons me_int ma_nil))) me_int) ma_nil))))
    (mss_cons (ms_if (mt_cmp (oEq hr.units) (me_var 1) me_int) (mss_one (ms_set 2 sc_law_simple.nd (me_tup (ma_cons me_str (ma_cons (me_ix oIx (me_new (mf_lst (ma_cons me_str (ma_cons me_str ma_nil)))) (me_f G_law_take (hr.mono (by decide)) (ma_cons (me_var 0) (ma_cons me_int ma_nil)))) (ma_cons (me_op oSub (me_f G_law_take (hr.mono (by decide)) (ma_cons (me_var 0) (ma_cons me_int ma_nil))) me_int) ma_nil)))))) mss_nil)
    (mss_one (ms_ret (me_tup (ma_cons me_str (ma_cons (me_ix oIx (me_new (mf_lst (ma_cons me_str (ma_cons me_str ma_nil)))) (me_f G_law_take (hr.mono (by decide)) (ma_cons (me_var 0) (ma_cons me_int ma_nil)))) (ma_cons (me_var 2) (ma_cons (me_op oSub (me_f G_law_take (hr.mono (by decide)) (ma_cons (me_var 0) (ma_cons me_int ma_nil))) me_int) ma_nil))))))))))))
abbrev s_law_tree : Stmt := top 41
theorem sc_law_tree : FnScope ["_law_hand", "_law_depth", "_law_purse", "_law_kind", "_law_sign", "_law_many_here", "_law_first", "_law_parts", "_law_k"] ["_law_hand", "_law_depth", "_law_purse"] (defScope s_law_tree) := ⟨rfl, rfl, rfl, by decide +kernel, rfl, by decide +kernel, by decide +kernel⟩
theorem ok_law_tree {f : Addr} {fd : FuncData} (T : Txt K mg) (G_law_take : Fnn P w K mg base 1 "_law_take" ["_law_hand", "_law_many_here"] f_law_take) (G_law_simple : Fnn P w K mg base 2 "_law_simple" ["_law_hand"] f_law_simple) (F : Fun K "_law_tree" "_law_tree" s_law_tree f fd) (hm : mg "_law_tree" = some (.ref f)) (n : Nat) : Fnn P w K mg base (3 + n) "_law_tree" ["_law_hand", "_law_depth", "_law_purse"] (f_law_tree n) := by
  induction n with
  | zero => exact fnn (k := 2) F hm sc_law_tree (fun _ _ _ _ _ _ us hl => match us, hl with | [_, _, _], _ => rfl) (fun cdv A outer s H E hr => mss_none)
  | succ n G_rec =>
    refine fnn (k := 3 + n) F hm sc_law_tree (fun _ _ _ _ _ _ us hl => match us, hl with | [_, _, _], _ => rfl) (fun cdv A outer s H E hr => ?_)
    exact (mss_cons (ms_set 3 sc_law_tree.nd (me_f G_law_take (hr.mono (by omega)) (ma_cons (me_var 0) (ma_cons me_int ma_nil))))
    (mss_cons (ms_if (mt_w (mw_or (mt_cmp (oEq hr.units) (me_var 1) me_int) (mw_or (mt_cmp oLt (me_var 3) me_int) (mw_or1 (mt_w (mw_and (mt_cmp oGt (me_var 3) me_int) (mw_and1 (mt_cmp oLt (me_var 2) me_int)))))))) (mss_cons (ms_set 4 sc_law_tree.nd (me_ix oIx (me_new (mf_lst (ma_cons me_str (ma_cons me_str (ma_cons me_str (ma_cons me_str (ma_cons me_str (ma_cons me_str ma_nil)))))))) (me_f G_law_take (hr.mono (by omega)) (ma_cons (me_var 0) (ma_cons me_int ma_nil)))))
    (mss_one (ms_ret (me_tup (ma_cons me_str (ma_cons (me_var 4) (ma_cons (me_f G_law_simple (hr.mono (by omega)) (ma_cons (me_var 0) ma_nil)) (ma_cons (me_f G_law_simple (hr.mono (by omega)) (ma_cons (me_var 0) ma_nil)) ma_nil)))))))) mss_nil)
    (mss_cons (ms_if (mt_cmp (oEq hr.units) (me_var 3) me_int) (mss_one (ms_ret (me_tup (ma_cons me_str (ma_cons (me_f G_rec (hr.mono (Nat.le_refl _)) (ma_cons (me_var 0) (ma_cons (me_op oSub (me_var 1) me_int) (ma_cons (me_var 2) ma_nil)))) ma_nil))))) mss_nil)
    (mss_cons (ms_set 5 sc_law_tree.nd (me_op oAdd me_int (me_op oDiv (me_f G_law_take (hr.mono (by omega)) (ma_cons (me_var 0) (ma_cons (me_op oSub (me_op oMul4 me_int (me_var 2)) me_int) ma_nil))) me_int)))
    (mss_cons (ms_if (mt_cmp (oEq hr.units) (me_f G_law_take (hr.mono (by omega)) (ma_cons (me_var 0) (ma_cons me_int ma_nil))) me_int) (mss_one (ms_set 5 sc_law_tree.nd me_int)) mss_nil)
    (mss_cons (ms_set 6 sc_law_tree.nd (me_ix oIx (me_new (mf_lst (ma_cons (me_op oDiv (me_var 2) (me_var 5)) (ma_cons (me_op oAdd (me_op oSub (me_var 2) (me_var 5)) me_int) ma_nil)))) (me_f G_law_take (hr.mono (by omega)) (ma_cons (me_var 0) (ma_cons me_int ma_nil)))))
    (mss_cons (ms_own 7 sc_law_tree.nd (mf_lst (ma_cons (me_f G_rec (hr.mono (Nat.le_refl _)) (ma_cons (me_var 0) (ma_cons (me_op oSub (me_var 1) me_int) (ma_cons (me_var 6) ma_nil)))) ma_nil)))
    (mss_cons (ms_for rfl (mi_rg1 (by rfl) T.b_range (me_op oSub (me_var 5) me_int)) (mg_name 8 sc_law_tree.nd) (mss_one (ms_expr (me_app 7 (me_f G_rec (hr.mono (Nat.le_refl _)) (ma_cons (me_var 0) (ma_cons (me_op oSub (me_var 1) me_int) (ma_cons (me_ix oIx (me_new (mf_lst (ma_cons (me_op oDiv (me_var 2) (me_var 5)) (ma_cons me_int ma_nil)))) (me_callT cInt3 (by rfl) T.b_int (by decide +kernel) (me_cmp oGt (me_var 6) (me_op oDiv (me_var 2) (me_var 5))))) ma_nil))))))))
    (mss_one (ms_ret (me_tup (ma_cons (me_ix oIx (me_new (mf_lst (ma_cons me_str (ma_cons me_str ma_nil)))) (me_f G_law_take (hr.mono (by omega)) (ma_cons (me_var 0) (ma_cons me_int ma_nil)))) (ma_cons (me_callTV 7 cTuple (by rfl) T.b_tuple (by decide +kernel)) ma_nil)))))))))))))
abbrev s_law_plus_words : Stmt := top 42
theorem sc_law_plus_words : FnScope ["_law_plus"] ["_law_plus"] (defScope s_law_plus_words) := ⟨rfl, rfl, rfl, by decide +kernel, rfl, by decide +kernel, by decide +kernel⟩
theorem ok_law_plus_words {f : Addr} {fd : FuncData} (T : Txt K mg)  (F : Fun K "_law_plus_words" "_law_plus_words" s_law_plus_words f fd) (hm : mg "_law_plus_words" = some (.ref f)) : Fnn P w K mg base 1 "_law_plus_words" ["_law_plus"] f_law_plus_words := by
  refine fnn (k := 0) F hm sc_law_plus_words (fun _ _ _ _ _ _ us hl => match us, hl with | [_], _ => rfl) (fun cdv A outer s H E hr => ?_)
  exact (mss_cons (ms_if (mt_cmp (oEq hr.units) (me_var 0) me_int) (mss_one (ms_ret (me_new (mf_lst ma_nil)))) mss_nil)
    (mss_one (ms_ret (me_new (mf_lst (ma_cons (me_ix oIx (me_new (mf_lst (ma_cons me_str (ma_cons me_str ma_nil)))) (me_callT cInt3 (by rfl) T.b_int (by decide +kernel) (me_cmp oGt (me_var 0) me_int))) (ma_cons (me_callT cStr (by rfl) T.b_str (by decide +kernel) (me_callBV 0 cAbs (by rfl) T.b_abs (by decide +kernel))) ma_nil)))))))
abbrev s_law_words_of : Stmt := top 43
theorem sc_law_words_of : FnScope ["_law_expression"] ["_law_expression"] (defScope s_law_words_of) := ⟨rfl, rfl, rfl, by decide +kernel, rfl, by decide +kernel, by decide +kernel⟩
theorem ok_law_words_of {f : Addr} {fd : FuncData} (T : Txt K mg) (G_law_plus_words : Fnn P w K mg base 1 "_law_plus_words" ["_law_plus"] f_law_plus_words) (F : Fun K "_law_words_of" "_law_words_of" s_law_words_of f fd) (hm : mg "_law_words_of" = some (.ref f)) (n : Nat) : Fnn P w K mg base (2 + n) "_law_words_of" ["_law_expression"] (f_law_words_of n) := by
  induction n with
  | zero => exact fnn (k := 1) F hm sc_law_words_of (fun _ _ _ _ _ _ us hl => match us, hl with | [_], _ => rfl) (fun cdv A outer s H E hr => mss_none)
  | succ n G_rec =>
    refine fnn (k := 2 + n) F hm sc_law_words_of (fun _ _ _ _ _ _ us hl => match us, hl with | [_], _ => rfl) (fun cdv A outer s H E hr => ?_)
    exact (mss_cons (ms_if (mt_cmp (oEq hr.units) (me_ixV 0 oIx me_int) me_str) (mss_cons (ms_if (mt_cmp oLt (me_ixV 0 oIx me_int) me_int) (mss_one (ms_ret (me_new (mf_lst (ma_cons me_str (ma_cons (me_callT cStr (by rfl) T.b_str (by decide +kernel) (me_neg (me_ixV 0 oIx me_int))) ma_nil)))))) mss_nil)
    (mss_one (ms_ret (me_new (mf_lst (ma_cons (me_callT cStr (by rfl) T.b_str (by decide +kernel) (me_ixV 0 oIx me_int)) ma_nil)))))) mss_nil)
    (mss_cons (ms_if (mt_cmp (oEq hr.units) (me_ixV 0 oIx me_int) me_str) (mss_one (ms_ret (me_op oAdd (me_new (mf_lst (ma_cons (me_ixV 0 oIx me_int) ma_nil))) (me_f G_law_plus_words (hr.mono (by omega)) (ma_cons (me_ixV 0 oIx me_int) ma_nil))))) mss_nil)
    (mss_one (ms_ret (me_op oAdd (me_op oAdd (me_op oAdd (me_new (mf_lst (ma_cons (me_ixV 0 oIx me_int) (ma_cons me_str ma_nil)))) (me_f G_rec (hr.mono (Nat.le_refl _)) (ma_cons (me_ixV 0 oIx me_int) ma_nil))) (me_new (mf_lst (ma_cons me_str ma_nil)))) (me_f G_law_plus_words (hr.mono (by omega)) (ma_cons (me_ixV 0 oIx me_int) ma_nil)))))))
abbrev s_law_plus_text : Stmt := top 44
theorem sc_law_plus_text : FnScope ["_law_plus"] ["_law_plus"] (defScope s_law_plus_text) := ⟨rfl, rfl, rfl, by decide +kernel, rfl, by decide +kernel, by decide +kernel⟩
theorem ok_law_plus_text {f : Addr} {fd : FuncData} (T : Txt K mg)  (F : Fun K "_law_plus_text" "_law_plus_text" s_law_plus_text f fd) (hm : mg "_law_plus_text" = some (.ref f)) : Fnn P w K mg base 1 "_law_plus_text" ["_law_plus"] f_law_plus_text := by
  refine fnn (k := 0) F hm sc_law_plus_text (fun _ _ _ _ _ _ us hl => match us, hl with | [_], _ => rfl) (fun cdv A outer s H E hr => ?_)
  exact (mss_cons (ms_if (mt_cmp (oEq hr.units) (me_var 0) me_int) (mss_one (ms_ret me_str)) mss_nil)
    (mss_one (ms_ret (me_op oAdd (me_op oAdd (me_op oAdd me_str (me_ix oIx (me_new (mf_lst (ma_cons me_str (ma_cons me_str ma_nil)))) (me_callT cInt3 (by rfl) T.b_int (by decide +kernel) (me_cmp oGt (me_var 0) me_int)))) me_str) (me_callT cStr (by rfl) T.b_str (by decide +kernel) (me_callBV 0 cAbs (by rfl) T.b_abs (by decide +kernel)))))))
abbrev s_law_text : Stmt := top 45
theorem sc_law_text : FnScope ["_law_expression"] ["_law_expression"] (defScope s_law_text) := ⟨rfl, rfl, rfl, by decide +kernel, rfl, by decide +kernel, by decide +kernel⟩
theorem ok_law_text {f : Addr} {fd : FuncData} (T : Txt K mg) (G_law_plus_text : Fnn P w K mg base 1 "_law_plus_text" ["_law_plus"] f_law_plus_text) (F : Fun K "_law_text" "_law_text" s_law_text f fd) (hm : mg "_law_text" = some (.ref f)) (n : Nat) : Fnn P w K mg base (2 + n) "_law_text" ["_law_expression"] (f_law_text n) := by
  induction n with
  | zero => exact fnn (k := 1) F hm sc_law_text (fun _ _ _ _ _ _ us hl => match us, hl with | [_], _ => rfl) (fun cdv A outer s H E hr => mss_none)
  | succ n G_rec =>
    refine fnn (k := 2 + n) F hm sc_law_text (fun _ _ _ _ _ _ us hl => match us, hl with | [_], _ => rfl) (fun cdv A outer s H E hr => ?_)
    exact (mss_cons (ms_if (mt_cmp (oEq hr.units) (me_ixV 0 oIx me_int) me_str) (mss_one (ms_ret (me_callT cStr (by rfl) T.b_str (by decide +kernel) (me_ixV 0 oIx me_int)))) mss_nil)
    (mss_cons (ms_if (mt_cmp (oEq hr.units) (me_ixV 0 oIx me_int) me_str) (mss_one (ms_ret (me_op oAdd (me_ixV 0 oIx me_int) (me_f G_law_plus_text (hr.mono (by omega)) (ma_cons (me_ixV 0 oIx me_int) ma_nil))))) mss_nil)
    (mss_one (ms_ret (me_op oAdd (me_op oAdd (me_op oAdd (me_op oAdd (me_ixV 0 oIx me_int) me_str) (me_f G_rec (hr.mono (Nat.le_refl _)) (ma_cons (me_ixV 0 oIx me_int) ma_nil))) me_str) (me_f G_law_plus_text (hr.mono (by omega)) (ma_cons (me_ixV 0 oIx me_int) ma_nil)))))))
abbrev s_law_needs : Stmt := top 46
theorem sc_law_needs : FnScope ["_law_word", "_law_part"] ["_law_word", "_law_part"] (defScope s_law_needs) := ⟨rfl, rfl, rfl, by decide +kernel, rfl, by decide +kernel, by decide +kernel⟩
theorem ok_law_needs {f : Addr} {fd : FuncData} (T : Txt K mg)  (F : Fun K "_law_needs" "_law_needs" s_law_needs f fd) (hm : mg "_law_needs" = some (.ref f)) : Fnn P w K mg base 1 "_law_needs" ["_law_word", "_law_part"] f_law_needs := by
  refine fnn (k := 0) F hm sc_law_needs (fun _ _ _ _ _ _ us hl => match us, hl with | [_, _], _ => rfl) (fun cdv A outer s H E hr => ?_)
  exact (mss_cons (ms_if (mt_cmp (oEq hr.units) (me_var 0) me_str) (mss_one (ms_ret (me_cmp (oEq hr.units) (me_ixV 1 oIx me_int) me_str))) mss_nil)
    (mss_one (ms_ret (me_cmp (oIn3 (u65 hr)) (me_ixV 1 oIx me_int) (me_new (mf_lst (ma_cons me_str (ma_cons me_str ma_nil))))))))
abbrev s_law_condition_text : Stmt := top 47
theorem sc_law_condition_text : FnScope ["_law_condition", "_law_parts", "_law_texts", "_law_part", "_law_text_here"] ["_law_condition"] (defScope s_law_condition_text) := ⟨rfl, rfl, rfl, by decide +kernel, rfl, by decide +kernel, by decide +kernel⟩
theorem ok_law_condition_text {f : Addr} {fd : FuncData} (T : Txt K mg) (G_law_text : Fnn P w K mg base 50 "_law_text" ["_law_expression"] (f_law_text 48)) (G_law_needs : Fnn P w K mg base 1 "_law_needs" ["_law_word", "_law_part"] f_law_needs) (F : Fun K "_law_condition_text" "_law_condition_text" s_law_condition_text f fd) (hm : mg "_law_condition_text" = some (.ref f)) (n : Nat) : Fnn P w K mg base (51 + n) "_law_condition_text" ["_law_condition"] (f_law_condition_text n) := by
  induction n with
  | zero => exact fnn (k := 50) F hm sc_law_condition_text (fun _ _ _ _ _ _ us hl => match us, hl with | [_], _ => rfl) (fun cdv A outer s H E hr => mss_none)
  | succ n G_rec =>
    refine fnn (k := 51 + n) F hm sc_law_condition_text (fun _ _ _ _ _ _ us hl => match us, hl with | [_], _ => rfl) (fun cdv A outer s H E hr => ?_)
    exact (mss_cons (ms_if (mt_cmp (oEq hr.units) (me_ixV 0 oIx me_int) me_str) (mss_one (ms_ret (me_op oAdd (me_op oAdd (me_op oAdd (me_op oAdd (me_f G_law_text (hr.mono (by omega)) (ma_cons (me_ixV 0 oIx me_int) ma_nil)) me_str) (me_ixV 0 oIx me_int)) me_str) (me_f G_law_text (hr.mono (by omega)) (ma_cons (me_ixV 0 oIx me_int) ma_nil))))) mss_nil)
    (mss_cons (ms_set 1 sc_law_condition_text.nd (me_ixV 0 oIx me_int))
    (mss_cons (ms_if (mt_cmp (oEq hr.units) (me_ixV 0 oIx me_int) me_str) (mss_one (ms_set 1 sc_law_condition_text.nd (me_new (mf_lst (ma_cons (me_ixV 0 oIx me_int) ma_nil))))) mss_nil)
    (mss_cons (ms_own 2 sc_law_condition_text.nd (mf_lst ma_nil))
    (mss_cons (ms_for rfl (mi_seq (me_var 1)) (mg_name 3 sc_law_condition_text.nd) (mss_cons (ms_set 4 sc_law_condition_text.nd (me_f G_rec (hr.mono (Nat.le_refl _)) (ma_cons (me_var 3) ma_nil)))
    (mss_cons (ms_if (mt_tru (me_f G_law_needs (hr.mono (by omega)) (ma_cons (me_ixV 0 oIx me_int) (ma_cons (me_var 3) ma_nil)))) (mss_one (ms_set 4 sc_law_condition_text.nd (me_op oAdd (me_op oAdd me_str (me_var 4)) me_str))) mss_nil)
    (mss_one (ms_expr (me_app 2 (me_var 4)))))))
    (mss_cons (ms_if (mt_cmp (oEq hr.units) (me_ixV 0 oIx me_int) me_str) (mss_one (ms_ret (me_op oAdd me_str (me_ixV 2 oIx me_int)))) mss_nil)
    (mss_one (ms_ret (me_join (me_op oAdd (me_op oAdd me_str (me_ixV 0 oIx me_int)) me_str) (me_var 2))))))))))
abbrev s_law_joins : Stmt := top 48
theorem sc_law_joins : FnScope ["_law_left", "_law_right"] ["_law_left", "_law_right"] (defScope s_law_joins) := ⟨rfl, rfl, rfl, by decide +kernel, rfl, by decide +kernel, by decide +kernel⟩
theorem ok_law_joins {f : Addr} {fd : FuncData} (T : Txt K mg) (G_law_letters : Fnn P w K mg base 1 "_law_letters" [] f_law_letters) (F : Fun K "_law_joins" "_law_joins" s_law_joins f fd) (hm : mg "_law_joins" = some (.ref f)) : Fnn P w K mg base 2 "_law_joins" ["_law_left", "_law_right"] f_law_joins := by
  refine fnn (k := 1) F hm sc_law_joins (fun _ _ _ _ _ _ us hl => match us, hl with | [_, _], _ => rfl) (fun cdv A outer s H E hr => ?_)
  exact (mss_cons (ms_if (mt_w (mw_and (mt_cmp (oIn3 (u65 hr)) (me_ixV 0 oIx (me_neg me_int)) (me_f0 G_law_letters (hr.mono (by decide)))) (mw_and1 (mt_cmp (oIn3 (u65 hr)) (me_ixV 1 oIx me_int) (me_f0 G_law_letters (hr.mono (by decide))))))) (mss_one (ms_ret me_bl)) mss_nil)
    (mss_cons (ms_if (mt_w (mw_and (mt_cmp (oIn3 (u65 hr)) (me_ixV 0 oIx (me_neg me_int)) me_str) (mw_and1 (mt_cmp (oIn3 (u65 hr)) (me_ixV 1 oIx me_int) me_str)))) (mss_one (ms_ret me_bl)) mss_nil)
    (mss_one (ms_ret (me_and (me_cmp (oIn3 (u65 hr)) (me_ixV 0 oIx (me_neg me_int)) me_str) (me_one (me_cmp (oIn3 (u65 hr)) (me_ixV 1 oIx me_int) me_str)))))))
abbrev s_law_spaced : Stmt := top 49
theorem sc_law_spaced : FnScope ["_law_hand", "_law_words", "_law_text_here", "_law_at", "_law_many_here"] ["_law_hand", "_law_words"] (defScope s_law_spaced) := ⟨rfl, rfl, rfl, by decide +kernel, rfl, by decide +kernel, by decide +kernel⟩
theorem ok_law_spaced {f : Addr} {fd : FuncData} (T : Txt K mg) (G_law_take : Fnn P w K mg base 1 "_law_take" ["_law_hand", "_law_many_here"] f_law_take) (G_law_joins : Fnn P w K mg base 2 "_law_joins" ["_law_left", "_law_right"] f_law_joins) (F : Fun K "_law_spaced" "_law_spaced" s_law_spaced f fd) (hm : mg "_law_spaced" = some (.ref f)) : Fnn P w K mg base 3 "_law_spaced" ["_law_hand", "_law_words"] f_law_spaced := by
  refine fnn (k := 2) F hm sc_law_spaced (fun _ _ _ _ _ _ us hl => match us, hl with | [_, _], _ => rfl) (fun cdv A outer s H E hr => ?_)
  exact (mss_cons (ms_set 2 sc_law_spaced.nd (me_op oMul4 me_str (me_op oDiv (me_f G_law_take (hr.mono (by decide)) (ma_cons (me_var 0) (ma_cons me_int ma_nil))) me_int)))
    (mss_cons (ms_for rfl (mi_rg1 (by rfl) T.b_range (me_callBV 1 cLen (by rfl) T.b_len PySem.boot_len)) (mg_name 3 sc_law_spaced.nd) (mss_cons (ms_set 2 sc_law_spaced.nd (me_op oAdd (me_var 2) (me_ixV 1 oIx (me_var 3))))
    (mss_cons (ms_set 4 sc_law_spaced.nd (me_ix oIx (me_new (mf_lst (ma_cons me_int (ma_cons me_int (ma_cons me_int (ma_cons me_int (ma_cons me_int (ma_cons (me_op oAdd me_int (me_f G_law_take (hr.mono (by decide)) (ma_cons (me_var 0) (ma_cons me_int ma_nil)))) ma_nil)))))))) (me_f G_law_take (hr.mono (by decide)) (ma_cons (me_var 0) (ma_cons me_int ma_nil)))))
    (mss_cons (ms_if (mt_w (mw_and (mt_cmp (oEq hr.units) (me_var 4) me_int) (mw_and (mt_cmp oLt (me_op oAdd (me_var 3) me_int) (me_callBV 1 cLen (by rfl) T.b_len PySem.boot_len)) (mw_and1 (mt_tru (me_f G_law_joins (hr.mono (by decide)) (ma_cons (me_ixV 1 oIx (me_var 3)) (ma_cons (me_ixV 1 oIx (me_op oAdd (me_var 3) me_int)) ma_nil)))))))) (mss_one (ms_set 4 sc_law_spaced.nd me_int)) mss_nil)
    (mss_one (ms_set 2 sc_law_spaced.nd (me_op oAdd (me_var 2) (me_op oMul4 me_str (me_var 4)))))))))
    (mss_one (ms_ret (me_var 2)))))
abbrev s_law_spoilt : Stmt := top 50
theorem sc_law_spoilt : FnScope ["_law_hand", "_law_words", "_law_odd", "_law_at", "_law_kind", "_law_word", "_law_other", "_law_row"] ["_law_hand", "_law_words"] (defScope s_law_spoilt) := ⟨rfl, rfl, rfl, by decide +kernel, rfl, by decide +kernel, by decide +kernel⟩
theorem ok_law_spoilt {f : Addr} {fd : FuncData} (T : Txt K mg) (G_law_take : Fnn P w K mg base 1 "_law_take" ["_law_hand", "_law_many_here"] f_law_take) (G_law_reserved : Fnn P w K mg base 1 "_law_reserved" [] f_law_reserved) (F : Fun K "_law_spoilt" "_law_spoilt" s_law_spoilt f fd) (hm : mg "_law_spoilt" = some (.ref f)) : Fnn P w K mg base 2 "_law_spoilt" ["_law_hand", "_law_words"] f_law_spoilt := by
  refine fnn (k := 1) F hm sc_law_spoilt (fun _ _ _ _ _ _ us hl => match us, hl with | [_, _], _ => rfl) (fun cdv A outer s H E hr => ?_)
  exact (mss_cons (ms_set 2 sc_law_spoilt.nd (me_new (mf_lst (ma_cons me_str (ma_cons me_str (ma_cons me_str (ma_cons me_str (ma_cons me_str (ma_cons me_str (ma_cons me_str (ma_cons me_str (ma_cons me_str (ma_cons me_str (ma_cons me_str (ma_cons me_str (ma_cons me_str (ma_cons me_str (ma_cons me_str (ma_cons me_str (ma_cons me_str (ma_cons me_str ma_nil)))))))))))))))))))))
    (mss_cons (ms_set 2 sc_law_spoilt.nd (me_op oAdd (me_var 2) (me_new (mf_lst (ma_cons me_str (ma_cons me_str (ma_cons me_str ma_nil)))))))
    (mss_cons (ms_set 3 sc_law_spoilt.nd (me_f G_law_take (hr.mono (by decide)) (ma_cons (me_var 0) (ma_cons (me_callBV 1 cLen (by rfl) T.b_len PySem.boot_len) ma_nil))))
    (mss_cons (ms_set 4 sc_law_spoilt.nd (me_f G_law_take (hr.mono (by decide)) (ma_cons (me_var 0) (ma_cons me_int ma_nil))))
    (mss_cons (ms_set 5 sc_law_spoilt.nd (me_ixV 2 oIx (me_f G_law_take (hr.mono (by decide)) (ma_cons (me_var 0) (ma_cons (me_callBV 2 cLen (by rfl) T.b_len PySem.boot_len) ma_nil)))))
    (mss_cons (ms_if (mt_cmp (oEq hr.units) (me_f G_law_take (hr.mono (by decide)) (ma_cons (me_var 0) (ma_cons me_int ma_nil))) me_int) (mss_one (ms_set 5 sc_law_spoilt.nd (me_ix oIx (me_f0 G_law_reserved (hr.mono (by decide))) (me_f G_law_take (hr.mono (by decide)) (ma_cons (me_var 0) (ma_cons me_int ma_nil)))))) mss_nil)
    (mss_cons (ms_if (mt_cmp (oEq hr.units) (me_var 4) me_int) (mss_one (ms_ret (me_op oAdd (me_sl3 (me_var 1) mo_none (mo_some (me_var 3))) (me_sl3 (me_var 1) (mo_some (me_op oAdd (me_var 3) me_int)) mo_none)))) mss_nil)
    (mss_cons (ms_if (mt_cmp (oEq hr.units) (me_var 4) me_int) (mss_one (ms_ret (me_op oAdd (me_op oAdd (me_sl3 (me_var 1) mo_none (mo_some (me_var 3))) (me_new (mf_lst (ma_cons (me_ixV 1 oIx (me_var 3)) ma_nil)))) (me_sl3 (me_var 1) (mo_some (me_var 3)) mo_none)))) mss_nil)
    (mss_cons (ms_if (mt_cmp (oEq hr.units) (me_var 4) me_int) (mss_one (ms_ret (me_op oAdd (me_op oAdd (me_sl3 (me_var 1) mo_none (mo_some (me_var 3))) (me_new (mf_lst (ma_cons (me_var 5) ma_nil)))) (me_sl3 (me_var 1) (mo_some (me_var 3)) mo_none)))) mss_nil)
    (mss_cons (ms_if (mt_cmp (oEq hr.units) (me_var 4) me_int) (mss_one (ms_ret (me_op oAdd (me_op oAdd (me_sl3 (me_var 1) mo_none (mo_some (me_var 3))) (me_new (mf_lst (ma_cons (me_var 5) ma_nil)))) (me_sl3 (me_var 1) (mo_some (me_op oAdd (me_var 3) me_int)) mo_none)))) mss_nil)
    (mss_cons (ms_set 6 sc_law_spoilt.nd (me_f G_law_take (hr.mono (by decide)) (ma_cons (me_var 0) (ma_cons (me_callBV 1 cLen (by rfl) T.b_len PySem.boot_len) ma_nil))))
    (mss_cons (ms_own 7 sc_law_spoilt.nd (mf_callTV 1 cList (by rfl) T.b_list (by decide +kernel)))
    (mss_cons (ms_asg (me_ixV 1 oIx (me_var 6)) (mg_sub 7 (me_var 3)))
    (mss_cons (ms_asg (me_ixV 1 oIx (me_var 3)) (mg_sub 7 (me_var 6)))
    (mss_one (ms_ret (me_var 7)))))))))))))))))
abbrev s_law_signed : Stmt := top 51
theorem sc_law_signed : FnScope ["_law_words", "_law_at"] ["_law_words", "_law_at"] (defScope s_law_signed) := ⟨rfl, rfl, rfl, by decide +kernel, rfl, by decide +kernel, by decide +kernel⟩
theorem ok_law_signed {f : Addr} {fd : FuncData} (T : Txt K mg) (G_law_is_number : Fnn P w K mg base 1 "_law_is_number" ["_law_word"] f_law_is_number) (F : Fun K "_law_signed" "_law_signed" s_law_signed f fd) (hm : mg "_law_signed" = some (.ref f)) : Fnn P w K mg base 2 "_law_signed" ["_law_words", "_law_at"] f_law_signed := by
  refine fnn (k := 1) F hm sc_law_signed (fun _ _ _ _ _ _ us hl => match us, hl with | [_, _], _ => rfl) (fun cdv A outer s H E hr => ?_)
  exact (mss_cons (ms_if (mt_w (mw_and (mt_cmp oLt (me_var 1) (me_callBV 0 cLen (by rfl) T.b_len PySem.boot_len)) (mw_and1 (mt_tru (me_f G_law_is_number (hr.mono (by decide)) (ma_cons (me_ixV 0 oIx (me_var 1)) ma_nil)))))) (mss_one (ms_ret (me_new (mf_lst (ma_cons (me_callT cInt3 (by rfl) T.b_int (by decide +kernel) (me_ixV 0 oIx (me_var 1))) (ma_cons (me_op oAdd (me_var 1) me_int) ma_nil)))))) mss_nil)
    (mss_cons (ms_if (mt_w (mw_and (mt_cmp oLt (me_op oAdd (me_var 1) me_int) (me_callBV 0 cLen (by rfl) T.b_len PySem.boot_len)) (mw_and (mt_cmp (oEq hr.units) (me_ixV 0 oIx (me_var 1)) me_str) (mw_and1 (mt_tru (me_f G_law_is_number (hr.mono (by decide)) (ma_cons (me_ixV 0 oIx (me_op oAdd (me_var 1) me_int)) ma_nil))))))) (mss_one (ms_ret (me_new (mf_lst (ma_cons (me_neg (me_callT cInt3 (by rfl) T.b_int (by decide +kernel) (me_ixV 0 oIx (me_op oAdd (me_var 1) me_int)))) (ma_cons (me_op oAdd (me_var 1) me_int) ma_nil)))))) mss_nil)
    (mss_one (ms_ret me_non))))
abbrev s_law_read_plus : Stmt := top 52
theorem sc_law_read_plus : FnScope ["_law_words", "_law_at"] ["_law_words", "_law_at"] (defScope s_law_read_plus) := ⟨rfl, rfl, rfl, by decide +kernel, rfl, by decide +kernel, by decide +kernel⟩
theorem ok_law_read_plus {f : Addr} {fd : FuncData} (T : Txt K mg) (G_law_is_number : Fnn P w K mg base 1 "_law_is_number" ["_law_word"] f_law_is_number) (F : Fun K "_law_read_plus" "_law_read_plus" s_law_read_plus f fd) (hm : mg "_law_read_plus" = some (.ref f)) : Fnn P w K mg base 2 "_law_read_plus" ["_law_words", "_law_at"] f_law_read_plus := by
  refine fnn (k := 1) F hm sc_law_read_plus (fun _ _ _ _ _ _ us hl => match us, hl with | [_, _], _ => rfl) (fun cdv A outer s H E hr => ?_)
  exact (mss_cons (ms_if (mt_w (mw_and (mt_cmp oLt (me_var 1) (me_callBV 0 cLen (by rfl) T.b_len PySem.boot_len)) (mw_and1 (mt_cmp (oIn3 (u65 hr)) (me_ixV 0 oIx (me_var 1)) (me_new (mf_lst (ma_cons me_str (ma_cons me_str ma_nil)))))))) (mss_cons (ms_if (mt_w (mw_or (mt_cmp oGe (me_op oAdd (me_var 1) me_int) (me_callBV 0 cLen (by rfl) T.b_len PySem.boot_len)) (mw_or1 (mt_not (mt_tru (me_f G_law_is_number (hr.mono (by decide)) (ma_cons (me_ixV 0 oIx (me_op oAdd (me_var 1) me_int)) ma_nil))))))) (mss_one (ms_ret me_non)) mss_nil)
    (mss_one (ms_ret (me_new (mf_lst (ma_cons (me_callT cInt3 (by rfl) T.b_int (by decide +kernel) (me_op oAdd (me_ixV 0 oIx (me_var 1)) (me_ixV 0 oIx (me_op oAdd (me_var 1) me_int)))) (ma_cons (me_op oAdd (me_var 1) me_int) ma_nil))))))) mss_nil)
    (mss_one (ms_ret (me_new (mf_lst (ma_cons me_int (ma_cons (me_var 1) ma_nil)))))))
abbrev s_law_read_plain : Stmt := top 53
theorem sc_law_read_plain : FnScope ["_law_words", "_law_at", "_law_found"] ["_law_words", "_law_at"] (defScope s_law_read_plain) := ⟨rfl, rfl, rfl, by decide +kernel, rfl, by decide +kernel, by decide +kernel⟩
theorem ok_law_read_plain {f : Addr} {fd : FuncData} (T : Txt K mg) (G_law_is_name : Fnn P w K mg base 2 "_law_is_name" ["_law_word"] f_law_is_name) (G_law_signed : Fnn P w K mg base 2 "_law_signed" ["_law_words", "_law_at"] f_law_signed) (G_law_read_plus : Fnn P w K mg base 2 "_law_read_plus" ["_law_words", "_law_at"] f_law_read_plus) (F : Fun K "_law_read_plain" "_law_read_plain" s_law_read_plain f fd) (hm : mg "_law_read_plain" = some (.ref f)) : Fnn P w K mg base 3 "_law_read_plain" ["_law_words", "_law_at"] f_law_read_plain := by
  refine fnn (k := 2) F hm sc_law_read_plain (fun _ _ _ _ _ _ us hl => match us, hl with | [_, _], _ => rfl) (fun cdv A outer s H E hr => ?_)
  exact (mss_cons (ms_set 2 sc_law_read_plain.nd (me_f G_law_signed (hr.mono (by decide)) (ma_cons (me_var 0) (ma_cons (me_var 1) ma_nil))))
    (mss_cons (ms_if (mt_cmp oNotN (me_var 2) me_non) (mss_one (ms_ret (me_new (mf_lst (ma_cons (me_tup (ma_cons me_str (ma_cons (me_ixV 2 oIx me_int) ma_nil))) (ma_cons (me_ixV 2 oIx me_int) ma_nil)))))) mss_nil)
    (mss_cons (ms_if (mt_w (mw_or (mt_cmp oGe (me_var 1) (me_callBV 0 cLen (by rfl) T.b_len PySem.boot_len)) (mw_or1 (mt_not (mt_tru (me_f G_law_is_name (hr.mono (by decide)) (ma_cons (me_ixV 0 oIx (me_var 1)) ma_nil))))))) (mss_one (ms_ret me_non)) mss_nil)
    (mss_cons (ms_set 2 sc_law_read_plain.nd (me_f G_law_read_plus (hr.mono (by decide)) (ma_cons (me_var 0) (ma_cons (me_op oAdd (me_var 1) me_int) ma_nil))))
    (mss_cons (ms_if (mt_cmp oIsN (me_var 2) me_non) (mss_one (ms_ret me_non)) mss_nil)
    (mss_one (ms_ret (me_new (mf_lst (ma_cons (me_tup (ma_cons me_str (ma_cons (me_ixV 0 oIx (me_var 1)) (ma_cons (me_ixV 2 oIx me_int) ma_nil)))) (ma_cons (me_ixV 2 oIx me_int) ma_nil)))))))))))
abbrev s_law_read : Stmt := top 54
theorem sc_law_read : FnScope ["_law_words", "_law_at", "_law_index", "_law_found"] ["_law_words", "_law_at"] (defScope s_law_read) := ⟨rfl, rfl, rfl, by decide +kernel, rfl, by decide +kernel, by decide +kernel⟩
theorem ok_law_read {f : Addr} {fd : FuncData} (T : Txt K mg) (G_law_is_name : Fnn P w K mg base 2 "_law_is_name" ["_law_word"] f_law_is_name) (G_law_read_plus : Fnn P w K mg base 2 "_law_read_plus" ["_law_words", "_law_at"] f_law_read_plus) (G_law_read_plain : Fnn P w K mg base 3 "_law_read_plain" ["_law_words", "_law_at"] f_law_read_plain) (F : Fun K "_law_read" "_law_read" s_law_read f fd) (hm : mg "_law_read" = some (.ref f)) : Fnn P w K mg base 4 "_law_read" ["_law_words", "_law_at"] f_law_read := by
  refine fnn (k := 3) F hm sc_law_read (fun _ _ _ _ _ _ us hl => match us, hl with | [_, _], _ => rfl) (fun cdv A outer s H E hr => ?_)
  exact (mss_cons (ms_if (mt_w (mw_or (mt_cmp oGe (me_op oAdd (me_var 1) me_int) (me_callBV 0 cLen (by rfl) T.b_len PySem.boot_len)) (mw_or (mt_not (mt_tru (me_f G_law_is_name (hr.mono (by decide)) (ma_cons (me_ixV 0 oIx (me_var 1)) ma_nil)))) (mw_or1 (mt_cmp (oNe hr.units) (me_ixV 0 oIx (me_op oAdd (me_var 1) me_int)) me_str))))) (mss_one (ms_ret (me_f G_law_read_plain (hr.mono (by decide)) (ma_cons (me_var 0) (ma_cons (me_var 1) ma_nil))))) mss_nil)
    (mss_cons (ms_set 2 sc_law_read.nd (me_f G_law_read_plain (hr.mono (by decide)) (ma_cons (me_var 0) (ma_cons (me_op oAdd (me_var 1) me_int) ma_nil))))
    (mss_cons (ms_if (mt_w (mw_or (mt_cmp oIsN (me_var 2) me_non) (mw_or (mt_cmp oGe (me_ixV 2 oIx me_int) (me_callBV 0 cLen (by rfl) T.b_len PySem.boot_len)) (mw_or1 (mt_cmp (oNe hr.units) (me_ixV 0 oIx (me_ixV 2 oIx me_int)) me_str))))) (mss_one (ms_ret me_non)) mss_nil)
    (mss_cons (ms_set 3 sc_law_read.nd (me_f G_law_read_plus (hr.mono (by decide)) (ma_cons (me_var 0) (ma_cons (me_op oAdd (me_ixV 2 oIx me_int) me_int) ma_nil))))
    (mss_cons (ms_if (mt_cmp oIsN (me_var 3) me_non) (mss_one (ms_ret me_non)) mss_nil)
    (mss_one (ms_ret (me_new (mf_lst (ma_cons (me_tup (ma_cons me_str (ma_cons (me_ixV 0 oIx (me_var 1)) (ma_cons (me_ixV 2 oIx me_int) (ma_cons (me_ixV 3 oIx me_int) ma_nil))))) (ma_cons (me_ixV 3 oIx me_int) ma_nil)))))))))))
abbrev s_law_same : Stmt := top 55
theorem sc_law_same : FnScope ["_law_found", "_law_expected", "_law_at"] ["_law_found", "_law_expected"] (defScope s_law_same) := ⟨rfl, rfl, rfl, by decide +kernel, rfl, by decide +kernel, by decide +kernel⟩
theorem ok_law_same {f : Addr} {fd : FuncData} (T : Txt K mg)  (F : Fun K "_law_same" "_law_same" s_law_same f fd) (hm : mg "_law_same" = some (.ref f)) (n : Nat) : Fnn P w K mg base (1 + n) "_law_same" ["_law_found", "_law_expected"] (f_law_same n) := by
  induction n with
  | zero => exact fnn (k := 0) F hm sc_law_same (fun _ _ _ _ _ _ us hl => match us, hl with | [_, _], _ => rfl) (fun cdv A outer s H E hr => mss_none)
  | succ n G_rec =>
    refine fnn (k := 1 + n) F hm sc_law_same (fun _ _ _ _ _ _ us hl => match us, hl with | [_, _], _ => rfl) (fun cdv A outer s H E hr => ?_)
    exact (mss_cons (ms_if (mt_tru (me_isiC (T := "tuple") (by rfl) T.b_isinstance (by rfl) T.b_tuple (by decide +kernel) (me_var 1))) (mss_cons (ms_if (mt_w (mw_or (mt_not (mt_tru (me_isiC (T := "tuple") (by rfl) T.b_isinstance (by rfl) T.b_tuple (by decide +kernel) (me_var 0)))) (mw_or1 (mt_cmp (oNe hr.units) (me_callBV 0 cLen (by rfl) T.b_len PySem.boot_len) (me_callBV 1 cLen (by rfl) T.b_len PySem.boot_len))))) (mss_one (ms_ret me_bl)) mss_nil)
    (mss_cons (ms_for rfl (mi_rg1 (by rfl) T.b_range (me_callBV 1 cLen (by rfl) T.b_len PySem.boot_len)) (mg_name 2 sc_law_same.nd) (mss_one (ms_if (mt_not (mt_tru (me_f G_rec (hr.mono (Nat.le_refl _)) (ma_cons (me_ixV 0 oIx (me_var 2)) (ma_cons (me_ixV 1 oIx (me_var 2)) ma_nil))))) (mss_one (ms_ret me_bl)) mss_nil)))
    (mss_one (ms_ret me_bl)))) mss_nil)
    (mss_cons (ms_if (mt_tru (me_isiC (T := "str") (by rfl) T.b_isinstance (by rfl) T.b_str (by decide +kernel) (me_var 1))) (mss_one (ms_ret (me_and (me_isiC (T := "str") (by rfl) T.b_isinstance (by rfl) T.b_str (by decide +kernel) (me_var 0)) (me_one (me_cmp (oEq hr.units) (me_var 0) (me_var 1)))))) mss_nil)
    (mss_cons (ms_if (mt_cmp oIsN (me_var 1) me_non) (mss_one (ms_ret (me_cmp oIsN (me_var 0) me_non))) mss_nil)
    (mss_one (ms_ret (me_and (me_isiC (T := "int") (by rfl) T.b_isinstance (by rfl) T.b_int (by decide +kernel) (me_var 0)) (me_and (me_not (me_isiC (T := "bool") (by rfl) T.b_isinstance (by rfl) T.b_bool (by decide +kernel) (me_var 0))) (me_one (me_cmp (oEq hr.units) (me_var 0) (me_var 1))))))))))
abbrev s_law_many : Stmt := top 56
theorem sc_law_many : FnScope ["_law_hand", "_law_kind"] ["_law_hand"] (defScope s_law_many) := ⟨rfl, rfl, rfl, by decide +kernel, rfl, by decide +kernel, by decide +kernel⟩
theorem ok_law_many {f : Addr} {fd : FuncData} (T : Txt K mg) (G_law_take : Fnn P w K mg base 1 "_law_take" ["_law_hand", "_law_many_here"] f_law_take) (F : Fun K "_law_many" "_law_many" s_law_many f fd) (hm : mg "_law_many" = some (.ref f)) : Fnn P w K mg base 2 "_law_many" ["_law_hand"] f_law_many := by
  refine fnn (k := 1) F hm sc_law_many (fun _ _ _ _ _ _ us hl => match us, hl with | [_], _ => rfl) (fun cdv A outer s H E hr => ?_)
  exact (mss_cons (ms_set 1 sc_law_many.nd (me_f G_law_take (hr.mono (by decide)) (ma_cons (me_var 0) (ma_cons me_int ma_nil))))
    (mss_cons (ms_if (mt_cmp (oEq hr.units) (me_var 1) me_int) (mss_one (ms_ret me_int)) mss_nil)
    (mss_cons (ms_if (mt_cmp (oEq hr.units) (me_var 1) me_int) (mss_one (ms_ret me_int)) mss_nil)
    (mss_one (ms_ret (me_ix oIx (me_new (mf_lst (ma_cons me_int (ma_cons me_int (ma_cons me_int ma_nil))))) (me_callBs (cMax2 rfl) (by rfl) T.b_max (by decide +kernel) (ma_cons me_int (ma_cons (me_op oSub (me_var 1) me_int) ma_nil)))))))))
abbrev s_law_dressed : Stmt := top 57
theorem sc_law_dressed : FnScope ["_law_hand", "_law_condition", "_law_pairs", "_law_more", "_law_words", "_law_inner", "_law_deepest", "_law_part"] ["_law_hand", "_law_condition", "_law_pairs", "_law_more"] (defScope s_law_dressed) := ⟨rfl, rfl, rfl, by decide +kernel, rfl, by decide +kernel, by decide +kernel⟩
theorem ok_law_dressed {f : Addr} {fd : FuncData} (T : Txt K mg) (G_law_words_of : Fnn P w K mg base 50 "_law_words_of" ["_law_expression"] (f_law_words_of 48)) (G_law_needs : Fnn P w K mg base 1 "_law_needs" ["_law_word", "_law_part"] f_law_needs) (G_law_many : Fnn P w K mg base 2 "_law_many" ["_law_hand"] f_law_many) (F : Fun K "_law_dressed" "_law_dressed" s_law_dressed f fd) (hm : mg "_law_dressed" = some (.ref f)) (n : Nat) : Fnn P w K mg base (51 + n) "_law_dressed" ["_law_hand", "_law_condition", "_law_pairs", "_law_more"] (f_law_dressed n) := by
  induction n with
  | zero => exact fnn (k := 50) F hm sc_law_dressed (fun _ _ _ _ _ _ us hl => match us, hl with | [_, _, _, _], _ => rfl) (fun cdv A outer s H E hr => mss_none)
  | succ n G_rec =>
    refine fnn (k := 51 + n) F hm sc_law_dressed (fun _ _ _ _ _ _ us hl => match us, hl with | [_, _, _, _], _ => rfl) (fun cdv A outer s H E hr => ?_)
    exact (mss_cons (ms_if (mt_truV 3) (mss_one (ms_set 2 sc_law_dressed.nd (me_op oAdd (me_var 2) (me_f G_law_many (hr.mono (by omega)) (ma_cons (me_var 0) ma_nil))))) mss_nil)
    (mss_cons (ms_if (mt_cmp (oEq hr.units) (me_ixV 1 oIx me_int) me_str) (mss_cons (ms_own 4 sc_law_dressed.nd (mf_cat (me_op oAdd (me_f G_law_words_of (hr.mono (by omega)) (ma_cons (me_ixV 1 oIx me_int) ma_nil)) (me_new (mf_lst (ma_cons (me_ixV 1 oIx me_int) ma_nil)))) (me_f G_law_words_of (hr.mono (by omega)) (ma_cons (me_ixV 1 oIx me_int) ma_nil))))
    (mss_one (ms_ret (me_new (mf_lst (ma_cons (me_op oAdd (me_opRv 4 oAdd (me_op oMul4 (me_new (mf_lst (ma_cons me_str ma_nil))) (me_var 2))) (me_op oMul4 (me_new (mf_lst (ma_cons me_str ma_nil))) (me_var 2))) (ma_cons (me_var 2) ma_nil))))))) mss_nil)
    (mss_cons (ms_if (mt_cmp (oEq hr.units) (me_ixV 1 oIx me_int) me_str) (mss_cons (ms_set 5 sc_law_dressed.nd (me_f G_rec (hr.mono (Nat.le_refl _)) (ma_cons (me_var 0) (ma_cons (me_ixV 1 oIx me_int) (ma_cons (me_callT cInt3 (by rfl) T.b_int (by decide +kernel) (me_f G_law_needs (hr.mono (by omega)) (ma_cons me_str (ma_cons (me_ixV 1 oIx me_int) ma_nil)))) (ma_cons (me_var 3) ma_nil))))))
    (mss_one (ms_ret (me_new (mf_lst (ma_cons (me_op oAdd (me_op oAdd (me_op oAdd (me_op oMul4 (me_new (mf_lst (ma_cons me_str ma_nil))) (me_var 2)) (me_new (mf_lst (ma_cons me_str ma_nil)))) (me_ixV 5 oIx me_int)) (me_op oMul4 (me_new (mf_lst (ma_cons me_str ma_nil))) (me_var 2))) (ma_cons (me_op oAdd (me_op oAdd (me_var 2) me_int) (me_ixV 5 oIx me_int)) ma_nil))))))) mss_nil)
    (mss_cons (ms_own 4 sc_law_dressed.nd (mf_lst ma_nil))
    (mss_cons (ms_set 6 sc_law_dressed.nd me_int)
    (mss_cons (ms_for rfl (mi_seq (me_ixV 1 oIx me_int)) (mg_name 7 sc_law_dressed.nd) (mss_cons (ms_set 5 sc_law_dressed.nd (me_f G_rec (hr.mono (Nat.le_refl _)) (ma_cons (me_var 0) (ma_cons (me_var 7) (ma_cons (me_callT cInt3 (by rfl) T.b_int (by decide +kernel) (me_f G_law_needs (hr.mono (by omega)) (ma_cons (me_ixV 1 oIx me_int) (ma_cons (me_var 7) ma_nil)))) (ma_cons (me_var 3) ma_nil))))))
    (mss_cons (ms_if (mt_cmp oGt (me_callBV 4 cLen (by rfl) T.b_len PySem.boot_len) me_int) (mss_one (ms_expr (me_app 4 (me_ixV 1 oIx me_int)))) mss_nil)
    (mss_cons (ms_own 4 sc_law_dressed.nd (mf_catL 4 (me_ixV 5 oIx me_int)))
    (mss_one (ms_if (mt_cmp oGt (me_ixV 5 oIx me_int) (me_var 6)) (mss_one (ms_set 6 sc_law_dressed.nd (me_ixV 5 oIx me_int))) mss_nil))))))
    (mss_one (ms_ret (me_new (mf_lst (ma_cons (me_op oAdd (me_opRv 4 oAdd (me_op oMul4 (me_new (mf_lst (ma_cons me_str ma_nil))) (me_var 2))) (me_op oMul4 (me_new (mf_lst (ma_cons me_str ma_nil))) (me_var 2))) (ma_cons (me_op oAdd (me_var 2) (me_var 6)) ma_nil))))))))))))
abbrev s_law_read_cmp : Stmt := top 58
theorem sc_law_read_cmp : FnScope ["_law_words", "_law_at", "_law_left", "_law_right"] ["_law_words", "_law_at"] (defScope s_law_read_cmp) := ⟨rfl, rfl, rfl, by decide +kernel, rfl, by decide +kernel, by decide +kernel⟩
theorem ok_law_read_cmp {f : Addr} {fd : FuncData} (T : Txt K mg) (G_law_read : Fnn P w K mg base 4 "_law_read" ["_law_words", "_law_at"] f_law_read) (F : Fun K "_law_read_cmp" "_law_read_cmp" s_law_read_cmp f fd) (hm : mg "_law_read_cmp" = some (.ref f)) : Fnn P w K mg base 5 "_law_read_cmp" ["_law_words", "_law_at"] f_law_read_cmp := by
  refine fnn (k := 4) F hm sc_law_read_cmp (fun _ _ _ _ _ _ us hl => match us, hl with | [_, _], _ => rfl) (fun cdv A outer s H E hr => ?_)
  exact (mss_cons (ms_set 2 sc_law_read_cmp.nd (me_f G_law_read (hr.mono (by decide)) (ma_cons (me_var 0) (ma_cons (me_var 1) ma_nil))))
    (mss_cons (ms_if (mt_w (mw_or (mt_cmp oIsN (me_var 2) me_non) (mw_or (mt_cmp oGe (me_ixV 2 oIx me_int) (me_callBV 0 cLen (by rfl) T.b_len PySem.boot_len)) (mw_or1 (mt_cmp (oNotIn3 (u65 hr)) (me_ixV 0 oIx (me_ixV 2 oIx me_int)) (me_new (mf_lst (ma_cons me_str (ma_cons me_str (ma_cons me_str (ma_cons me_str (ma_cons me_str (ma_cons me_str ma_nil))))))))))))) (mss_one (ms_ret me_non)) mss_nil)
    (mss_cons (ms_set 3 sc_law_read_cmp.nd (me_f G_law_read (hr.mono (by decide)) (ma_cons (me_var 0) (ma_cons (me_op oAdd (me_ixV 2 oIx me_int) me_int) ma_nil))))
    (mss_cons (ms_if (mt_cmp oIsN (me_var 3) me_non) (mss_one (ms_ret me_non)) mss_nil)
    (mss_one (ms_ret (me_new (mf_lst (ma_cons (me_tup (ma_cons me_str (ma_cons (me_ixV 0 oIx (me_ixV 2 oIx me_int)) (ma_cons (me_ixV 2 oIx me_int) (ma_cons (me_ixV 3 oIx me_int) ma_nil))))) (ma_cons (me_ixV 3 oIx me_int) ma_nil))))))))))
abbrev s_law_read_not : Stmt := top 59
theorem sc_law_read_not : FnScope ["_law_words", "_law_at", "_law_opened", "_law_inner"] ["_law_words", "_law_at", "_law_opened"] (defScope s_law_read_not) := ⟨rfl, rfl, rfl, by decide +kernel, rfl, by decide +kernel, by decide +kernel⟩
abbrev s_law_read_and : Stmt := top 60
theorem sc_law_read_and : FnScope ["_law_words", "_law_at", "_law_opened", "_law_parts", "_law_step", "_law_part"] ["_law_words", "_law_at", "_law_opened"] (defScope s_law_read_and) := ⟨rfl, rfl, rfl, by decide +kernel, rfl, by decide +kernel, by decide +kernel⟩
abbrev s_law_read_or : Stmt := top 61
theorem sc_law_read_or : FnScope ["_law_words", "_law_at", "_law_opened", "_law_parts", "_law_step", "_law_part"] ["_law_words", "_law_at", "_law_opened"] (defScope s_law_read_or) := ⟨rfl, rfl, rfl, by decide +kernel, rfl, by decide +kernel, by decide +kernel⟩
theorem ok_scc_law_read_not {f0 : Addr} {fd0 : FuncData} {f1 : Addr} {fd1 : FuncData} {f2 : Addr} {fd2 : FuncData} (T : Txt K mg) (G_law_read_cmp : Fnn P w K mg base 5 "_law_read_cmp" ["_law_words", "_law_at"] f_law_read_cmp) (F0 : Fun K "_law_read_not" "_law_read_not" s_law_read_not f0 fd0) (hm0 : mg "_law_read_not" = some (.ref f0)) (F1 : Fun K "_law_read_and" "_law_read_and" s_law_read_and f1 fd1) (hm1 : mg "_law_read_and" = some (.ref f1)) (F2 : Fun K "_law_read_or" "_law_read_or" s_law_read_or f2 fd2) (hm2 : mg "_law_read_or" = some (.ref f2)) (n : Nat) : Fnn P w K mg base (6 + n) "_law_read_not" ["_law_words", "_law_at", "_law_opened"] (f_law_read_not n) ∧ Fnn P w K mg base (6 + n) "_law_read_and" ["_law_words", "_law_at", "_law_opened"] (f_law_read_and n) ∧ Fnn P w K mg base (6 + n) "_law_read_or" ["_law_words", "_law_at", "_law_opened"] (f_law_read_or n) := by
  induction n with
  | zero => exact ⟨fnn (k := 5) F0 hm0 sc_law_read_not (fun _ _ _ _ _ _ us hl => match us, hl with | [_, _, _], _ => rfl) (fun cdv A outer s H E hr => mss_none), fnn (k := 5) F1 hm1 sc_law_read_and (fun _ _ _ _ _ _ us hl => match us, hl with | [_, _, _], _ => rfl) (fun cdv A outer s H E hr => mss_none), fnn (k := 5) F2 hm2 sc_law_read_or (fun _ _ _ _ _ _ us hl => match us, hl with | [_, _, _], _ => rfl) (fun cdv A outer s H E hr => mss_none)⟩
  | succ n ih =>
    obtain ⟨G_rec_law_read_not, G_rec_law_read_and, G_rec_law_read_or⟩ := ih
    refine ⟨fnn (k := 6 + n) F0 hm0 sc_law_read_not (fun _ _ _ _ _ _ us hl => match us, hl with | [_, _, _], _ => rfl) (fun cdv A outer s H E hr => ?_), fnn (k := 6 + n) F1 hm1 sc_law_read_and (fun _ _ _ _ _ _ us hl => match us, hl with | [_, _, _], _ => rfl) (fun cdv A outer s H E hr => ?_), fnn (k := 6 + n) F2 hm2 sc_law_read_or (fun _ _ _ _ _ _ us hl => match us, hl with | [_, _, _], _ => rfl) (fun cdv A outer s H E hr => ?_)⟩
    · exact (mss_cons (ms_if (mt_w (mw_or (mt_cmp oGe (me_var 1) (me_callBV 0 cLen (by rfl) T.b_len PySem.boot_len)) (mw_or1 (mt_cmp (oNotIn3 (u65 hr)) (me_ixV 0 oIx (me_var 1)) (me_new (mf_lst (ma_cons me_str (ma_cons me_str ma_nil)))))))) (mss_one (ms_ret (me_f G_law_read_cmp (hr.mono (by omega)) (ma_cons (me_var 0) (ma_cons (me_var 1) ma_nil))))) mss_nil)
    (mss_cons (ms_if (mt_cmp (oEq hr.units) (me_var 2) me_int) (mss_one (ms_ret me_non)) mss_nil)
    (mss_cons (ms_if (mt_cmp (oEq hr.units) (me_ixV 0 oIx (me_var 1)) me_str) (mss_cons (ms_set 3 sc_law_read_not.nd (me_f G_rec_law_read_not (hr.mono (Nat.le_refl _)) (ma_cons (me_var 0) (ma_cons (me_op oAdd (me_var 1) me_int) (ma_cons (me_op oAdd (me_var 2) me_int) ma_nil)))))
    (mss_cons (ms_if (mt_cmp oIsN (me_var 3) me_non) (mss_one (ms_ret me_non)) mss_nil)
    (mss_one (ms_ret (me_new (mf_lst (ma_cons (me_tup (ma_cons me_str (ma_cons (me_ixV 3 oIx me_int) ma_nil))) (ma_cons (me_ixV 3 oIx me_int) ma_nil)))))))) mss_nil)
    (mss_cons (ms_set 3 sc_law_read_not.nd (me_f G_rec_law_read_or (hr.mono (Nat.le_refl _)) (ma_cons (me_var 0) (ma_cons (me_op oAdd (me_var 1) me_int) (ma_cons (me_op oAdd (me_var 2) me_int) ma_nil)))))
    (mss_cons (ms_if (mt_w (mw_or (mt_cmp oIsN (me_var 3) me_non) (mw_or (mt_cmp oGe (me_ixV 3 oIx me_int) (me_callBV 0 cLen (by rfl) T.b_len PySem.boot_len)) (mw_or1 (mt_cmp (oNe hr.units) (me_ixV 0 oIx (me_ixV 3 oIx me_int)) me_str))))) (mss_one (ms_ret me_non)) mss_nil)
    (mss_one (ms_ret (me_new (mf_lst (ma_cons (me_ixV 3 oIx me_int) (ma_cons (me_op oAdd (me_ixV 3 oIx me_int) me_int) ma_nil)))))))))))
    · exact (mss_cons (ms_own 3 sc_law_read_and.nd (mf_lst ma_nil))
    (mss_cons (ms_for rfl (mi_rg1 (by rfl) T.b_range (me_op oAdd (me_callBV 0 cLen (by rfl) T.b_len PySem.boot_len) me_int)) (mg_name 4 sc_law_read_and.nd) (mss_cons (ms_set 5 sc_law_read_and.nd (me_f G_rec_law_read_not (hr.mono (Nat.le_refl _)) (ma_cons (me_var 0) (ma_cons (me_var 1) (ma_cons (me_var 2) ma_nil)))))
    (mss_cons (ms_if (mt_cmp oIsN (me_var 5) me_non) (mss_one (ms_ret me_non)) mss_nil)
    (mss_cons (ms_expr (me_app 3 (me_ixV 5 oIx me_int)))
    (mss_cons (ms_set 1 sc_law_read_and.nd (me_ixV 5 oIx me_int))
    (mss_cons (ms_if (mt_w (mw_or (mt_cmp oGe (me_var 1) (me_callBV 0 cLen (by rfl) T.b_len PySem.boot_len)) (mw_or1 (mt_cmp (oNe hr.units) (me_ixV 0 oIx (me_var 1)) me_str)))) (mss_one ms_break) mss_nil)
    (mss_one (ms_set 1 sc_law_read_and.nd (me_op oAdd (me_var 1) me_int)))))))))
    (mss_cons (ms_if (mt_cmp (oEq hr.units) (me_callBV 3 cLen (by rfl) T.b_len PySem.boot_len) me_int) (mss_one (ms_ret (me_new (mf_lst (ma_cons (me_ixV 3 oIx me_int) (ma_cons (me_var 1) ma_nil)))))) mss_nil)
    (mss_one (ms_ret (me_new (mf_lst (ma_cons (me_tup (ma_cons me_str (ma_cons (me_callTV 3 cTuple (by rfl) T.b_tuple (by decide +kernel)) ma_nil))) (ma_cons (me_var 1) ma_nil)))))))))
    · exact (mss_cons (ms_own 3 sc_law_read_or.nd (mf_lst ma_nil))
    (mss_cons (ms_for rfl (mi_rg1 (by rfl) T.b_range (me_op oAdd (me_callBV 0 cLen (by rfl) T.b_len PySem.boot_len) me_int)) (mg_name 4 sc_law_read_or.nd) (mss_cons (ms_set 5 sc_law_read_or.nd (me_f G_rec_law_read_and (hr.mono (Nat.le_refl _)) (ma_cons (me_var 0) (ma_cons (me_var 1) (ma_cons (me_var 2) ma_nil)))))
    (mss_cons (ms_if (mt_cmp oIsN (me_var 5) me_non) (mss_one (ms_ret me_non)) mss_nil)
    (mss_cons (ms_expr (me_app 3 (me_ixV 5 oIx me_int)))
    (mss_cons (ms_set 1 sc_law_read_or.nd (me_ixV 5 oIx me_int))
    (mss_cons (ms_if (mt_w (mw_or (mt_cmp oGe (me_var 1) (me_callBV 0 cLen (by rfl) T.b_len PySem.boot_len)) (mw_or1 (mt_cmp (oNe hr.units) (me_ixV 0 oIx (me_var 1)) me_str)))) (mss_one ms_break) mss_nil)
    (mss_one (ms_set 1 sc_law_read_or.nd (me_op oAdd (me_var 1) me_int)))))))))
    (mss_cons (ms_if (mt_cmp (oEq hr.units) (me_callBV 3 cLen (by rfl) T.b_len PySem.boot_len) me_int) (mss_one (ms_ret (me_new (mf_lst (ma_cons (me_ixV 3 oIx me_int) (ma_cons (me_var 1) ma_nil)))))) mss_nil)
    (mss_one (ms_ret (me_new (mf_lst (ma_cons (me_tup (ma_cons me_str (ma_cons (me_callTV 3 cTuple (by rfl) T.b_tuple (by decide +kernel)) ma_nil))) (ma_cons (me_var 1) ma_nil)))))))))
abbrev s_law_read_condition : Stmt := top 62
theorem sc_law_read_condition : FnScope ["_law_words", "_law_found"] ["_law_words"] (defScope s_law_read_condition) := ⟨rfl, rfl, rfl, by decide +kernel, rfl, by decide +kernel, by decide +kernel⟩
theorem ok_law_read_condition {f : Addr} {fd : FuncData} (T : Txt K mg) (G_law_read_or : Fnn P w K mg base 54 "_law_read_or" ["_law_words", "_law_at", "_law_opened"] (f_law_read_or 48)) (F : Fun K "_law_read_condition" "_law_read_condition" s_law_read_condition f fd) (hm : mg "_law_read_condition" = some (.ref f)) : Fnn P w K mg base 55 "_law_read_condition" ["_law_words"] f_law_read_condition := by
  refine fnn (k := 54) F hm sc_law_read_condition (fun _ _ _ _ _ _ us hl => match us, hl with | [_], _ => rfl) (fun cdv A outer s H E hr => ?_)
  exact (mss_cons (ms_set 1 sc_law_read_condition.nd (me_f G_law_read_or (hr.mono (by decide)) (ma_cons (me_var 0) (ma_cons me_int (ma_cons me_int ma_nil)))))
    (mss_cons (ms_if (mt_w (mw_or (mt_cmp oIsN (me_var 1) me_non) (mw_or1 (mt_cmp (oNe hr.units) (me_ixV 1 oIx me_int) (me_callBV 0 cLen (by rfl) T.b_len PySem.boot_len))))) (mss_one (ms_ret me_non)) mss_nil)
    (mss_one (ms_ret (me_ixV 1 oIx me_int)))))
abbrev s_law : Stmt := top 63
theorem sc_law : FnScope ["_law_script", "_law_hand", "_law_condition", "_law_text_here", "_law_written", "_law_plain", "_law_due", "_law_dressed_here", "_law_at", "_law_foreign", "_law_words", "_law_step", "_law_chain", "_law_nots"] ["_law_script"] (defScope s_law) := ⟨rfl, rfl, rfl, by decide +kernel, rfl, by decide +kernel, by decide +kernel⟩
theorem ok_law {f : Addr} {fd : FuncData} (T : Txt K mg) (G_read_condition : Fnn P w K mg base 57 "read_condition" ["text"] f_read_condition) (G_write_condition : Fnn P w K mg base 99 "write_condition" ["condition"] (f_write_condition 48)) (G_law_draws : Fnn P w K mg base 1 "_law_draws" ["_law_script", "_law_many_here"] f_law_draws) (G_law_take : Fnn P w K mg base 1 "_law_take" ["_law_hand", "_law_many_here"] f_law_take) (G_law_tree : Fnn P w K mg base 51 "_law_tree" ["_law_hand", "_law_depth", "_law_purse"] (f_law_tree 48)) (G_law_condition_text : Fnn P w K mg base 99 "_law_condition_text" ["_law_condition"] (f_law_condition_text 48)) (G_law_spaced : Fnn P w K mg base 3 "_law_spaced" ["_law_hand", "_law_words"] f_law_spaced) (G_law_spoilt : Fnn P w K mg base 2 "_law_spoilt" ["_law_hand", "_law_words"] f_law_spoilt) (G_law_same : Fnn P w K mg base 49 "_law_same" ["_law_found", "_law_expected"] (f_law_same 48)) (G_law_many : Fnn P w K mg base 2 "_law_many" ["_law_hand"] f_law_many) (G_law_dressed : Fnn P w K mg base 99 "_law_dressed" ["_law_hand", "_law_condition", "_law_pairs", "_law_more"] (f_law_dressed 48)) (G_law_read_condition : Fnn P w K mg base 55 "_law_read_condition" ["_law_words"] f_law_read_condition) (F : Fun K "law" "law" s_law f fd) (hm : mg "law" = some (.ref f)) : Fnn P w K mg base 100 "law" ["_law_script"] f_law := by
  refine fnn (k := 99) F hm sc_law (fun _ _ _ _ _ _ us hl => match us, hl with | [_], _ => rfl) (fun cdv A outer s H E hr => ?_)
  exact (mss_cons (ms_cell 1 sc_law.nd (mf_lst (ma_cons (me_f G_law_draws (hr.mono (by decide)) (ma_cons (me_var 0) (ma_cons me_int ma_nil))) (ma_cons me_int ma_nil))))
    (mss_cons (ms_set 2 sc_law.nd (me_f G_law_tree (hr.mono (by decide)) (ma_cons (me_var 1) (ma_cons (me_op oAdd me_int (me_f G_law_take (hr.mono (by decide)) (ma_cons (me_var 1) (ma_cons me_int ma_nil)))) (ma_cons me_int ma_nil)))))
    (mss_cons (ms_set 3 sc_law.nd (me_f G_law_condition_text (hr.mono (by decide)) (ma_cons (me_var 2) ma_nil)))
    (mss_cons (ms_set 4 sc_law.nd (me_f G_write_condition (hr.mono (by decide)) (ma_cons (me_var 2) ma_nil)))
    (mss_cons (ms_set 5 sc_law.nd (me_f G_law_dressed (hr.mono (by decide)) (ma_cons (me_var 1) (ma_cons (me_var 2) (ma_cons me_int (ma_cons me_bl ma_nil))))))
    (mss_cons (ms_if (mt_w (mw_or (mt_not (mt_tru (me_isiC (T := "str") (by rfl) T.b_isinstance (by rfl) T.b_str (by decide +kernel) (me_var 4)))) (mw_or1 (mt_cmp (oNe hr.units) (me_var 4) (me_var 3))))) (mss_one (ms_ret me_bl)) mss_nil)
    (mss_cons (ms_set 6 sc_law.nd (me_var 2))
    (mss_cons (ms_if (mt_cmp oGt (me_ixV 5 oIx me_int) me_int) (mss_one (ms_set 6 sc_law.nd me_non)) mss_nil)
    (mss_cons (ms_if (mt_w (mw_or (mt_not (mt_tru (me_f G_law_same (hr.mono (by decide)) (ma_cons (me_f G_read_condition (hr.mono (by decide)) (ma_cons (me_var 3) ma_nil)) (ma_cons (me_var 6) ma_nil))))) (mw_or1 (mt_not (mt_tru (me_f G_law_same (hr.mono (by decide)) (ma_cons (me_f G_read_condition (hr.mono (by decide)) (ma_cons (me_f G_law_spaced (hr.mono (by decide)) (ma_cons (me_var 1) (ma_cons (me_ixV 5 oIx me_int) ma_nil))) ma_nil)) (ma_cons (me_var 6) ma_nil)))))))) (mss_one (ms_ret me_bl)) mss_nil)
    (mss_cons (ms_set 7 sc_law.nd (me_f G_law_dressed (hr.mono (by decide)) (ma_cons (me_var 1) (ma_cons (me_var 2) (ma_cons (me_f G_law_many (hr.mono (by decide)) (ma_cons (me_var 1) ma_nil)) (ma_cons me_bl ma_nil))))))
    (mss_cons (ms_set 6 sc_law.nd (me_var 2))
    (mss_cons (ms_if (mt_cmp oGt (me_ixV 7 oIx me_int) me_int) (mss_one (ms_set 6 sc_law.nd me_non)) mss_nil)
    (mss_cons (ms_if (mt_not (mt_tru (me_f G_law_same (hr.mono (by decide)) (ma_cons (me_f G_read_condition (hr.mono (by decide)) (ma_cons (me_f G_law_spaced (hr.mono (by decide)) (ma_cons (me_var 1) (ma_cons (me_ixV 7 oIx me_int) ma_nil))) ma_nil)) (ma_cons (me_var 6) ma_nil))))) (mss_one (ms_ret me_bl)) mss_nil)
    (mss_cons (ms_set 8 sc_law.nd (me_f G_law_take (hr.mono (by decide)) (ma_cons (me_var 1) (ma_cons (me_op oAdd (me_callBV 3 cLen (by rfl) T.b_len PySem.boot_len) me_int) ma_nil))))
    (mss_cons (ms_set 9 sc_law.nd (me_ix oIx (me_new (mf_lst (ma_cons me_str (ma_cons me_str (ma_cons me_str (ma_cons me_str (ma_cons me_str (ma_cons me_str (ma_cons me_str ma_nil))))))))) (me_f G_law_take (hr.mono (by decide)) (ma_cons (me_var 1) (ma_cons me_int ma_nil)))))
    (mss_cons (ms_if (mt_cmp oNotN (me_f G_read_condition (hr.mono (by decide)) (ma_cons (me_op oAdd (me_op oAdd (me_sl3 (me_var 3) mo_none (mo_some (me_var 8))) (me_var 9)) (me_sl3 (me_var 3) (mo_some (me_var 8)) mo_none)) ma_nil)) me_non) (mss_one (ms_ret me_bl)) mss_nil)
    (mss_cons (ms_set 10 sc_law.nd (me_ixV 7 oIx me_int))
    (mss_cons (ms_for rfl (mi_rg1 (by rfl) T.b_range me_int) (mg_name 11 sc_law.nd) (mss_cons (ms_set 10 sc_law.nd (me_f G_law_spoilt (hr.mono (by decide)) (ma_cons (me_var 1) (ma_cons (me_var 10) ma_nil))))
    (mss_cons (ms_if (mt_not (mt_tru (me_f G_law_same (hr.mono (by decide)) (ma_cons (me_f G_read_condition (hr.mono (by decide)) (ma_cons (me_f G_law_spaced (hr.mono (by decide)) (ma_cons (me_var 1) (ma_cons (me_var 10) ma_nil))) ma_nil)) (ma_cons (me_f G_law_read_condition (hr.mono (by decide)) (ma_cons (me_var 10) ma_nil)) ma_nil))))) (mss_one (ms_ret me_bl)) mss_nil)
    (mss_one (ms_if (mt_cmp (oEq hr.units) (me_callBV 10 cLen (by rfl) T.b_len PySem.boot_len) me_int) (mss_one (ms_ret me_bl)) mss_nil)))))
    (mss_cons (ms_set 12 sc_law.nd (me_var 2))
    (mss_cons (ms_set 13 sc_law.nd (me_op oAdd me_int (me_f G_law_take (hr.mono (by decide)) (ma_cons (me_var 1) (ma_cons me_int ma_nil)))))
    (mss_cons (ms_for rfl (mi_rg1 (by rfl) T.b_range (me_var 13)) (mg_name 11 sc_law.nd) (mss_one (ms_set 12 sc_law.nd (me_tup (ma_cons me_str (ma_cons (me_var 12) ma_nil))))))
    (mss_cons (ms_if (mt_cmp (oEq hr.units) (me_ixV 2 oIx me_int) me_str) (mss_cons (ms_set 6 sc_law.nd (me_var 12))
    (mss_cons (ms_if (mt_cmp oGt (me_var 13) me_int) (mss_one (ms_set 6 sc_law.nd me_non)) mss_nil)
    (mss_one (ms_if (mt_not (mt_tru (me_f G_law_same (hr.mono (by decide)) (ma_cons (me_f G_read_condition (hr.mono (by decide)) (ma_cons (me_op oAdd (me_op oMul4 me_str (me_var 13)) (me_var 3)) ma_nil)) (ma_cons (me_var 6) ma_nil))))) (mss_one (ms_ret me_bl)) mss_nil)))) mss_nil)
    (mss_one (ms_ret (me_cmp oIsN (me_f G_read_condition (hr.mono (by decide)) (ma_cons me_str ma_nil)) me_non)))))))))))))))))))))))))
end
theorem fn_law {P : Program} {w : World} {K : PySem.W.Frag} {mg : Str → Option Value} {base : Heap} {f : Addr} {fd : FuncData} (T : Txt K mg) (G_read_condition : Fnn P w K mg base 57 "read_condition" ["text"] f_read_condition) (G_write_condition : Fnn P w K mg base 99 "write_condition" ["condition"] (f_write_condition 48)) (G_law_draws : Fnn P w K mg base 1 "_law_draws" ["_law_script", "_law_many_here"] f_law_draws) (G_law_take : Fnn P w K mg base 1 "_law_take" ["_law_hand", "_law_many_here"] f_law_take) (G_law_tree : Fnn P w K mg base 51 "_law_tree" ["_law_hand", "_law_depth", "_law_purse"] (f_law_tree 48)) (G_law_condition_text : Fnn P w K mg base 99 "_law_condition_text" ["_law_condition"] (f_law_condition_text 48)) (G_law_spaced : Fnn P w K mg base 3 "_law_spaced" ["_law_hand", "_law_words"] f_law_spaced) (G_law_spoilt : Fnn P w K mg base 2 "_law_spoilt" ["_law_hand", "_law_words"] f_law_spoilt) (G_law_same : Fnn P w K mg base 49 "_law_same" ["_law_found", "_law_expected"] (f_law_same 48)) (G_law_many : Fnn P w K mg base 2 "_law_many" ["_law_hand"] f_law_many) (G_law_dressed : Fnn P w K mg base 99 "_law_dressed" ["_law_hand", "_law_condition", "_law_pairs", "_law_more"] (f_law_dressed 48)) (G_law_read_condition : Fnn P w K mg base 55 "_law_read_condition" ["_law_words"] f_law_read_condition) (F : Fun K "law" "law" s_law f fd) : FnOk P w K mg base CX0 100 f fd ["_law_script"] (spM K 1 f_law) := by
  refine fn_ok (k := 99) F sc_law (fun cdv A outer s H E hr => ?_)
  exact (mss_cons (ms_cell 1 sc_law.nd (mf_lst (ma_cons (me_f G_law_draws (hr.mono (by decide)) (ma_cons (me_var 0) (ma_cons me_int ma_nil))) (ma_cons me_int ma_nil))))
    (mss_cons (ms_set 2 sc_law.nd (me_f G_law_tree (hr.mono (by decide)) (ma_cons (me_var 1) (ma_cons (me_op oAdd me_int (me_f G_law_take (hr.mono (by decide)) (ma_cons (me_var 1) (ma_cons me_int ma_nil)))) (ma_cons me_int ma_nil)))))
    (mss_cons (ms_set 3 sc_law.nd (me_f G_law_condition_text (hr.mono (by decide)) (ma_cons (me_var 2) ma_nil)))
    (mss_cons (ms_set 4 sc_law.nd (me_f G_write_condition (hr.mono (by decide)) (ma_cons (me_var 2) ma_nil)))
    (mss_cons (ms_set 5 sc_law.nd (me_f G_law_dressed (hr.mono (by decide)) (ma_cons (me_var 1) (ma_cons (me_var 2) (ma_cons me_int (ma_cons me_bl ma_nil))))))
    (mss_cons (ms_if (mt_w (mw_or (mt_not (mt_tru (me_isiC (T := "str") (by rfl) T.b_isinstance (by rfl) T.b_str (by decide +kernel) (me_var 4)))) (mw_or1 (mt_cmp (oNe hr.units) (me_var 4) (me_var 3))))) (mss_one (ms_ret me_bl)) mss_nil)
    (mss_cons (ms_set 6 sc_law.nd (me_var 2))
    (mss_cons (ms_if (mt_cmp oGt (me_ixV 5 oIx me_int) me_int) (mss_one (ms_set 6 sc_law.nd me_non)) mss_nil)
    (mss_cons (ms_if (mt_w (mw_or (mt_not (mt_tru (me_f G_law_same (hr.mono (by decide)) (ma_cons (me_f G_read_condition (hr.mono (by decide)) (ma_cons (me_var 3) ma_nil)) (ma_cons (me_var 6) ma_nil))))) (mw_or1 (mt_not (mt_tru (me_f G_law_same (hr.mono (by decide)) (ma_cons (me_f G_read_condition (hr.mono (by decide)) (ma_cons (me_f G_law_spaced (hr.mono (by decide)) (ma_cons (me_var 1) (ma_cons (me_ixV 5 oIx me_int) ma_nil))) ma_nil)) (ma_cons (me_var 6) ma_nil)))))))) (mss_one (ms_ret me_bl)) mss_nil)
    (mss_cons (ms_set 7 sc_law.nd (me_f G_law_dressed (hr.mono (by decide)) (ma_cons (me_var 1) (ma_cons (me_var 2) (ma_cons (me_f G_law_many (hr.mono (by decide)) (ma_cons (me_var 1) ma_nil)) (ma_cons me_bl ma_nil))))))
    (mss_cons (ms_set 6 sc_law.nd (me_var 2))
    (mss_cons (ms_if (mt_cmp oGt (me_ixV 7 oIx me_int) me_int) (mss_one (ms_set 6 sc_law.nd me_non)) mss_nil)
    (mss_cons (ms_if (mt_not (mt_tru (me_f G_law_same (hr.mono (by decide)) (ma_cons (me_f G_read_condition (hr.mono (by decide)) (ma_cons (me_f G_law_spaced (hr.mono (by decide)) (ma_cons (me_var 1) (ma_cons (me_ixV 7 oIx me_int) ma_nil))) ma_nil)) (ma_cons (me_var 6) ma_nil))))) (mss_one (ms_ret me_bl)) mss_nil)
    (mss_cons (ms_set 8 sc_law.nd (me_f G_law_take (hr.mono (by decide)) (ma_cons (me_var 1) (ma_cons (me_op oAdd (me_callBV 3 cLen (by rfl) T.b_len PySem.boot_len) me_int) ma_nil))))
    (mss_cons (ms_set 9 sc_law.nd (me_ix oIx (me_new (mf_lst (ma_cons me_str (ma_cons me_str (ma_cons me_str (ma_cons me_str (ma_cons me_str (ma_cons me_str (ma_cons me_str ma_nil))))))))) (me_f G_law_take (hr.mono (by decide)) (ma_cons (me_var 1) (ma_cons me_int ma_nil)))))
    (mss_cons (ms_if (mt_cmp oNotN (me_f G_read_condition (hr.mono (by decide)) (ma_cons (me_op oAdd (me_op oAdd (me_sl3 (me_var 3) mo_none (mo_some (me_var 8))) (me_var 9)) (me_sl3 (me_var 3) (mo_some (me_var 8)) mo_none)) ma_nil)) me_non) (mss_one (ms_ret me_bl)) mss_nil)
    (mss_cons (ms_set 10 sc_law.nd (me_ixV 7 oIx me_int))
    (mss_cons (ms_for rfl (mi_rg1 (by rfl) T.b_range me_int) (mg_name 11 sc_law.nd) (mss_cons (ms_set 10 sc_law.nd (me_f G_law_spoilt (hr.mono (by decide)) (ma_cons (me_var 1) (ma_cons (me_var 10) ma_nil))))
    (mss_cons (ms_if (mt_not (mt_tru (me_f G_law_same (hr.mono (by decide)) (ma_cons (me_f G_read_condition (hr.mono (by decide)) (ma_cons (me_f G_law_spaced (hr.mono (by decide)) (ma_cons (me_var 1) (ma_cons (me_var 10) ma_nil))) ma_nil)) (ma_cons (me_f G_law_read_condition (hr.mono (by decide)) (ma_cons (me_var 10) ma_nil)) ma_nil))))) (mss_one (ms_ret me_bl)) mss_nil)
    (mss_one (ms_if (mt_cmp (oEq hr.units) (me_callBV 10 cLen (by rfl) T.b_len PySem.boot_len) me_int) (mss_one (ms_ret me_bl)) mss_nil)))))
    (mss_cons (ms_set 12 sc_law.nd (me_var 2))
    (mss_cons (ms_set 13 sc_law.nd (me_op oAdd me_int (me_f G_law_take (hr.mono (by decide)) (ma_cons (me_var 1) (ma_cons me_int ma_nil)))))
    (mss_cons (ms_for rfl (mi_rg1 (by rfl) T.b_range (me_var 13)) (mg_name 11 sc_law.nd) (mss_one (ms_set 12 sc_law.nd (me_tup (ma_cons me_str (ma_cons (me_var 12) ma_nil))))))
    (mss_cons (ms_if (mt_cmp (oEq hr.units) (me_ixV 2 oIx me_int) me_str) (mss_cons (ms_set 6 sc_law.nd (me_var 12))
    (mss_cons (ms_if (mt_cmp oGt (me_var 13) me_int) (mss_one (ms_set 6 sc_law.nd me_non)) mss_nil)
    (mss_one (ms_if (mt_not (mt_tru (me_f G_law_same (hr.mono (by decide)) (ma_cons (me_f G_read_condition (hr.mono (by decide)) (ma_cons (me_op oAdd (me_op oMul4 me_str (me_var 13)) (me_var 3)) ma_nil)) (ma_cons (me_var 6) ma_nil))))) (mss_one (ms_ret me_bl)) mss_nil)))) mss_nil)
    (mss_one (ms_ret (me_cmp oIsN (me_f G_read_condition (hr.mono (by decide)) (ma_cons me_str ma_nil)) me_non)))))))))))))))))))))))))
theorem all_mk {l : PySem.W.OpenLaw} {w : World} {K : PySem.W.Frag} {h : Heap} {mg : Str → Option Value} {fa : Addr} (X : K.In h) (G : h.Ns mainGlobals mg) (hfa : mg "law" = some (.ref fa))
    {od1 an1 od2 an2 od3 an3 od4 an4 od5 an5 od6 an6 od7 an7 od8 an8 od9 an9 od10 an10 od11 an11 od12 an12 od13 an13 od14 an14 od15 an15 od16 an16 od17 an17 od18 an18 od19 an19 od20 an20 od21 an21 od22 an22 od23 an23 od24 an24 od25 an25 od26 an26 od27 an27 od28 an28 od29 an29 od30 an30 od31 an31 od32 an32 od33 an33 od34 an34 od35 an35 od36 an36 od37 an37 od38 an38 od39 an39 od40 an40 od41 an41 od42 an42 od43 an43 od44 an44 od45 an45 od46 an46 od47 an47 od48 an48 od49 an49 od50 an50 od51 an51 od52 an52 : Option Addr} {sl1 sl2 sl3 sl4 sl5 sl6 sl7 sl8 sl9 sl10 sl11 sl12 sl13 sl14 sl15 sl16 sl17 sl18 sl19 sl20 sl21 sl22 sl23 sl24 sl25 sl26 sl27 sl28 sl29 sl30 sl31 sl32 sl33 sl34 sl35 sl36 sl37 sl38 sl39 sl40 sl41 sl42 sl43 sl44 sl45 sl46 sl47 sl48 sl49 sl50 sl51 sl52 : Array (Option Value)} {oc1 kV1 dc1 pm1 cd1 ct1 oc2 kV2 dc2 pm2 cd2 ct2 oc3 kV3 dc3 pm3 cd3 ct3 oc4 kV4 dc4 pm4 cd4 ct4 oc5 kV5 dc5 pm5 cd5 ct5 oc6 kV6 dc6 pm6 cd6 ct6 oc7 kV7 dc7 pm7 cd7 ct7 oc8 kV8 dc8 pm8 cd8 ct8 oc9 kV9 dc9 pm9 cd9 ct9 oc10 kV10 dc10 pm10 cd10 ct10 oc11 kV11 dc11 pm11 cd11 ct11 oc12 kV12 dc12 pm12 cd12 ct12 oc13 kV13 dc13 pm13 cd13 ct13 oc14 kV14 dc14 pm14 cd14 ct14 oc15 kV15 dc15 pm15 cd15 ct15 oc16 kV16 dc16 pm16 cd16 ct16 oc17 kV17 dc17 pm17 cd17 ct17 oc18 kV18 dc18 pm18 cd18 ct18 oc19 kV19 dc19 pm19 cd19 ct19 oc20 kV20 dc20 pm20 cd20 ct20 oc21 kV21 dc21 pm21 cd21 ct21 oc22 kV22 dc22 pm22 cd22 ct22 oc23 kV23 dc23 pm23 cd23 ct23 oc24 kV24 dc24 pm24 cd24 ct24 oc25 kV25 dc25 pm25 cd25 ct25 oc26 kV26 dc26 pm26 cd26 ct26 oc27 kV27 dc27 pm27 cd27 ct27 oc28 kV28 dc28 pm28 cd28 ct28 oc29 kV29 dc29 pm29 cd29 ct29 oc30 kV30 dc30 pm30 cd30 ct30 oc31 kV31 dc31 pm31 cd31 ct31 oc32 kV32 dc32 pm32 cd32 ct32 oc33 kV33 dc33 pm33 cd33 ct33 oc34 kV34 dc34 pm34 cd34 ct34 oc35 kV35 dc35 pm35 cd35 ct35 oc36 kV36 dc36 pm36 cd36 ct36 oc37 kV37 dc37 pm37 cd37 ct37 oc38 kV38 dc38 pm38 cd38 ct38 oc39 kV39 dc39 pm39 cd39 ct39 oc40 kV40 dc40 pm40 cd40 ct40 oc41 kV41 dc41 pm41 cd41 ct41 oc42 kV42 dc42 pm42 cd42 ct42 oc43 kV43 dc43 pm43 cd43 ct43 oc44 kV44 dc44 pm44 cd44 ct44 oc45 kV45 dc45 pm45 cd45 ct45 oc46 kV46 dc46 pm46 cd46 ct46 oc47 kV47 dc47 pm47 cd47 ct47 oc48 kV48 dc48 pm48 cd48 ct48 oc49 kV49 dc49 pm49 cd49 ct49 oc50 kV50 dc50 pm50 cd50 ct50 oc51 kV51 dc51 pm51 cd51 ct51 oc52 kV52 dc52 pm52 cd52 ct52 : Value} {f1 f2 f3 f4 f5 f6 f7 f8 f9 f10 f11 f12 f13 f14 f15 f16 f17 f18 f19 f20 f21 f22 f23 f24 f25 f26 f27 f28 f29 f30 f31 f32 f33 f34 f35 f36 f37 f38 f39 f40 f41 f42 f43 f44 f45 f46 f47 f48 f49 f50 f51 f52 : Addr} {tg0 : Tok} {tg1 : Tok} {ag2 : Addr} {dg2 : Option Addr} {ig2 : Array Value} {ng2 : Nat} {sg2 : Array (Option Value)} {tg3 : Tok} {ag4 : Addr} {dg4 : Option Addr} {ig4 : Array Value} {ng4 : Nat} {sg4 : Array (Option Value)} {tg5 : Tok} {tg6 : Tok} {ag7 : Addr} {dg7 : Option Addr} {ig7 : Array Value} {ng7 : Nat} {sg7 : Array (Option Value)} {tg8 : Tok}
    (a1 : PySem.W.nsIn K mainGlobals "run_end" = some (some (.ref f1))) (l1 : K.lookup f1 = some ⟨oc1, od1, .func (PySem.W.fnOf "run_end" "run_end" (defArgs s_run_end) (defBody s_run_end) (defScope s_run_end) .none kV1 dc1 pm1 an1 cd1 ct1), sl1⟩) (c1 : PySem.W.codeIn K cd1 "run_end" = true) (k1 : PySem.W.keepIn K (.ref f1) = true)
    (a2 : PySem.W.nsIn K mainGlobals "word_end" = some (some (.ref f2))) (l2 : K.lookup f2 = some ⟨oc2, od2, .func (PySem.W.fnOf "word_end" "word_end" (defArgs s_word_end) (defBody s_word_end) (defScope s_word_end) .none kV2 dc2 pm2 an2 cd2 ct2), sl2⟩) (c2 : PySem.W.codeIn K cd2 "word_end" = true) (k2 : PySem.W.keepIn K (.ref f2) = true)
    (a3 : PySem.W.nsIn K mainGlobals "split_row" = some (some (.ref f3))) (l3 : K.lookup f3 = some ⟨oc3, od3, .func (PySem.W.fnOf "split_row" "split_row" (defArgs s_split_row) (defBody s_split_row) (defScope s_split_row) .none kV3 dc3 pm3 an3 cd3 ct3), sl3⟩) (c3 : PySem.W.codeIn K cd3 "split_row" = true) (k3 : PySem.W.keepIn K (.ref f3) = true)
    (a4 : PySem.W.nsIn K mainGlobals "is_name" = some (some (.ref f4))) (l4 : K.lookup f4 = some ⟨oc4, od4, .func (PySem.W.fnOf "is_name" "is_name" (defArgs s_is_name) (defBody s_is_name) (defScope s_is_name) .none kV4 dc4 pm4 an4 cd4 ct4), sl4⟩) (c4 : PySem.W.codeIn K cd4 "is_name" = true) (k4 : PySem.W.keepIn K (.ref f4) = true)
    (a5 : PySem.W.nsIn K mainGlobals "is_number" = some (some (.ref f5))) (l5 : K.lookup f5 = some ⟨oc5, od5, .func (PySem.W.fnOf "is_number" "is_number" (defArgs s_is_number) (defBody s_is_number) (defScope s_is_number) .none kV5 dc5 pm5 an5 cd5 ct5), sl5⟩) (c5 : PySem.W.codeIn K cd5 "is_number" = true) (k5 : PySem.W.keepIn K (.ref f5) = true)
    (a6 : PySem.W.nsIn K mainGlobals "word_at" = some (some (.ref f6))) (l6 : K.lookup f6 = some ⟨oc6, od6, .func (PySem.W.fnOf "word_at" "word_at" (defArgs s_word_at) (defBody s_word_at) (defScope s_word_at) .none kV6 dc6 pm6 an6 cd6 ct6), sl6⟩) (c6 : PySem.W.codeIn K cd6 "word_at" = true) (k6 : PySem.W.keepIn K (.ref f6) = true)
    (a7 : PySem.W.nsIn K mainGlobals "signed_at" = some (some (.ref f7))) (l7 : K.lookup f7 = some ⟨oc7, od7, .func (PySem.W.fnOf "signed_at" "signed_at" (defArgs s_signed_at) (defBody s_signed_at) (defScope s_signed_at) .none kV7 dc7 pm7 an7 cd7 ct7), sl7⟩) (c7 : PySem.W.codeIn K cd7 "signed_at" = true) (k7 : PySem.W.keepIn K (.ref f7) = true)
    (a8 : PySem.W.nsIn K mainGlobals "plus_at" = some (some (.ref f8))) (l8 : K.lookup f8 = some ⟨oc8, od8, .func (PySem.W.fnOf "plus_at" "plus_at" (defArgs s_plus_at) (defBody s_plus_at) (defScope s_plus_at) .none kV8 dc8 pm8 an8 cd8 ct8), sl8⟩) (c8 : PySem.W.codeIn K cd8 "plus_at" = true) (k8 : PySem.W.keepIn K (.ref f8) = true)
    (a9 : PySem.W.nsIn K mainGlobals "plain_at" = some (some (.ref f9))) (l9 : K.lookup f9 = some ⟨oc9, od9, .func (PySem.W.fnOf "plain_at" "plain_at" (defArgs s_plain_at) (defBody s_plain_at) (defScope s_plain_at) .none kV9 dc9 pm9 an9 cd9 ct9), sl9⟩) (c9 : PySem.W.codeIn K cd9 "plain_at" = true) (k9 : PySem.W.keepIn K (.ref f9) = true)
    (a10 : PySem.W.nsIn K mainGlobals "expression_at" = some (some (.ref f10))) (l10 : K.lookup f10 = some ⟨oc10, od10, .func (PySem.W.fnOf "expression_at" "expression_at" (defArgs s_expression_at) (defBody s_expression_at) (defScope s_expression_at) .none kV10 dc10 pm10 an10 cd10 ct10), sl10⟩) (c10 : PySem.W.codeIn K cd10 "expression_at" = true) (k10 : PySem.W.keepIn K (.ref f10) = true)
    (a11 : PySem.W.nsIn K mainGlobals "comparison_at" = some (some (.ref f11))) (l11 : K.lookup f11 = some ⟨oc11, od11, .func (PySem.W.fnOf "comparison_at" "comparison_at" (defArgs s_comparison_at) (defBody s_comparison_at) (defScope s_comparison_at) .none kV11 dc11 pm11 an11 cd11 ct11), sl11⟩) (c11 : PySem.W.codeIn K cd11 "comparison_at" = true) (k11 : PySem.W.keepIn K (.ref f11) = true)
    (a12 : PySem.W.nsIn K mainGlobals "joined" = some (some (.ref f12))) (l12 : K.lookup f12 = some ⟨oc12, od12, .func (PySem.W.fnOf "joined" "joined" (defArgs s_joined) (defBody s_joined) (defScope s_joined) .none kV12 dc12 pm12 an12 cd12 ct12), sl12⟩) (c12 : PySem.W.codeIn K cd12 "joined" = true) (k12 : PySem.W.keepIn K (.ref f12) = true)
    (a13 : PySem.W.nsIn K mainGlobals "part_at" = some (some (.ref f13))) (l13 : K.lookup f13 = some ⟨oc13, od13, .func (PySem.W.fnOf "part_at" "part_at" (defArgs s_part_at) (defBody s_part_at) (defScope s_part_at) .none kV13 dc13 pm13 an13 cd13 ct13), sl13⟩) (c13 : PySem.W.codeIn K cd13 "part_at" = true) (k13 : PySem.W.keepIn K (.ref f13) = true)
    (a14 : PySem.W.nsIn K mainGlobals "and_at" = some (some (.ref f14))) (l14 : K.lookup f14 = some ⟨oc14, od14, .func (PySem.W.fnOf "and_at" "and_at" (defArgs s_and_at) (defBody s_and_at) (defScope s_and_at) .none kV14 dc14 pm14 an14 cd14 ct14), sl14⟩) (c14 : PySem.W.codeIn K cd14 "and_at" = true) (k14 : PySem.W.keepIn K (.ref f14) = true)
    (a15 : PySem.W.nsIn K mainGlobals "or_at" = some (some (.ref f15))) (l15 : K.lookup f15 = some ⟨oc15, od15, .func (PySem.W.fnOf "or_at" "or_at" (defArgs s_or_at) (defBody s_or_at) (defScope s_or_at) .none kV15 dc15 pm15 an15 cd15 ct15), sl15⟩) (c15 : PySem.W.codeIn K cd15 "or_at" = true) (k15 : PySem.W.keepIn K (.ref f15) = true)
    (a16 : PySem.W.nsIn K mainGlobals "made_of_all" = some (some (.ref f16))) (l16 : K.lookup f16 = some ⟨oc16, od16, .func (PySem.W.fnOf "made_of_all" "made_of_all" (defArgs s_made_of_all) (defBody s_made_of_all) (defScope s_made_of_all) .none kV16 dc16 pm16 an16 cd16 ct16), sl16⟩) (c16 : PySem.W.codeIn K cd16 "made_of_all" = true) (k16 : PySem.W.keepIn K (.ref f16) = true)
    (a17 : PySem.W.nsIn K mainGlobals "condition_of" = some (some (.ref f17))) (l17 : K.lookup f17 = some ⟨oc17, od17, .func (PySem.W.fnOf "condition_of" "condition_of" (defArgs s_condition_of) (defBody s_condition_of) (defScope s_condition_of) .none kV17 dc17 pm17 an17 cd17 ct17), sl17⟩) (c17 : PySem.W.codeIn K cd17 "condition_of" = true) (k17 : PySem.W.keepIn K (.ref f17) = true)
    (a18 : PySem.W.nsIn K mainGlobals "read_condition" = some (some (.ref f18))) (l18 : K.lookup f18 = some ⟨oc18, od18, .func (PySem.W.fnOf "read_condition" "read_condition" (defArgs s_read_condition) (defBody s_read_condition) (defScope s_read_condition) .none kV18 dc18 pm18 an18 cd18 ct18), sl18⟩) (c18 : PySem.W.codeIn K cd18 "read_condition" = true) (k18 : PySem.W.keepIn K (.ref f18) = true)
    (a19 : PySem.W.nsIn K mainGlobals "write_plus" = some (some (.ref f19))) (l19 : K.lookup f19 = some ⟨oc19, od19, .func (PySem.W.fnOf "write_plus" "write_plus" (defArgs s_write_plus) (defBody s_write_plus) (defScope s_write_plus) .none kV19 dc19 pm19 an19 cd19 ct19), sl19⟩) (c19 : PySem.W.codeIn K cd19 "write_plus" = true) (k19 : PySem.W.keepIn K (.ref f19) = true)
    (a20 : PySem.W.nsIn K mainGlobals "write_expression" = some (some (.ref f20))) (l20 : K.lookup f20 = some ⟨oc20, od20, .func (PySem.W.fnOf "write_expression" "write_expression" (defArgs s_write_expression) (defBody s_write_expression) (defScope s_write_expression) .none kV20 dc20 pm20 an20 cd20 ct20), sl20⟩) (c20 : PySem.W.codeIn K cd20 "write_expression" = true) (k20 : PySem.W.keepIn K (.ref f20) = true)
    (a21 : PySem.W.nsIn K mainGlobals "write_part" = some (some (.ref f21))) (l21 : K.lookup f21 = some ⟨oc21, od21, .func (PySem.W.fnOf "write_part" "write_part" (defArgs s_write_part) (defBody s_write_part) (defScope s_write_part) .none kV21 dc21 pm21 an21 cd21 ct21), sl21⟩) (c21 : PySem.W.codeIn K cd21 "write_part" = true) (k21 : PySem.W.keepIn K (.ref f21) = true)
    (a22 : PySem.W.nsIn K mainGlobals "write_condition" = some (some (.ref f22))) (l22 : K.lookup f22 = some ⟨oc22, od22, .func (PySem.W.fnOf "write_condition" "write_condition" (defArgs s_write_condition) (defBody s_write_condition) (defScope s_write_condition) .none kV22 dc22 pm22 an22 cd22 ct22), sl22⟩) (c22 : PySem.W.codeIn K cd22 "write_condition" = true) (k22 : PySem.W.keepIn K (.ref f22) = true)
    (a23 : PySem.W.nsIn K mainGlobals "_law_draws" = some (some (.ref f23))) (l23 : K.lookup f23 = some ⟨oc23, od23, .func (PySem.W.fnOf "_law_draws" "_law_draws" (defArgs s_law_draws) (defBody s_law_draws) (defScope s_law_draws) .none kV23 dc23 pm23 an23 cd23 ct23), sl23⟩) (c23 : PySem.W.codeIn K cd23 "_law_draws" = true) (k23 : PySem.W.keepIn K (.ref f23) = true)
    (a24 : PySem.W.nsIn K mainGlobals "_law_take" = some (some (.ref f24))) (l24 : K.lookup f24 = some ⟨oc24, od24, .func (PySem.W.fnOf "_law_take" "_law_take" (defArgs s_law_take) (defBody s_law_take) (defScope s_law_take) .none kV24 dc24 pm24 an24 cd24 ct24), sl24⟩) (c24 : PySem.W.codeIn K cd24 "_law_take" = true) (k24 : PySem.W.keepIn K (.ref f24) = true)
    (a25 : PySem.W.nsIn K mainGlobals "_law_letters" = some (some (.ref f25))) (l25 : K.lookup f25 = some ⟨oc25, od25, .func (PySem.W.fnOf "_law_letters" "_law_letters" (defArgs s_law_letters) (defBody s_law_letters) (defScope s_law_letters) .none kV25 dc25 pm25 an25 cd25 ct25), sl25⟩) (c25 : PySem.W.codeIn K cd25 "_law_letters" = true) (k25 : PySem.W.keepIn K (.ref f25) = true)
    (a26 : PySem.W.nsIn K mainGlobals "_law_reserved" = some (some (.ref f26))) (l26 : K.lookup f26 = some ⟨oc26, od26, .func (PySem.W.fnOf "_law_reserved" "_law_reserved" (defArgs s_law_reserved) (defBody s_law_reserved) (defScope s_law_reserved) .none kV26 dc26 pm26 an26 cd26 ct26), sl26⟩) (c26 : PySem.W.codeIn K cd26 "_law_reserved" = true) (k26 : PySem.W.keepIn K (.ref f26) = true)
    (a27 : PySem.W.nsIn K mainGlobals "_law_is_name" = some (some (.ref f27))) (l27 : K.lookup f27 = some ⟨oc27, od27, .func (PySem.W.fnOf "_law_is_name" "_law_is_name" (defArgs s_law_is_name) (defBody s_law_is_name) (defScope s_law_is_name) .none kV27 dc27 pm27 an27 cd27 ct27), sl27⟩) (c27 : PySem.W.codeIn K cd27 "_law_is_name" = true) (k27 : PySem.W.keepIn K (.ref f27) = true)
    (a28 : PySem.W.nsIn K mainGlobals "_law_is_number" = some (some (.ref f28))) (l28 : K.lookup f28 = some ⟨oc28, od28, .func (PySem.W.fnOf "_law_is_number" "_law_is_number" (defArgs s_law_is_number) (defBody s_law_is_number) (defScope s_law_is_number) .none kV28 dc28 pm28 an28 cd28 ct28), sl28⟩) (c28 : PySem.W.codeIn K cd28 "_law_is_number" = true) (k28 : PySem.W.keepIn K (.ref f28) = true)
    (a29 : PySem.W.nsIn K mainGlobals "_law_simple" = some (some (.ref f29))) (l29 : K.lookup f29 = some ⟨oc29, od29, .func (PySem.W.fnOf "_law_simple" "_law_simple" (defArgs s_law_simple) (defBody s_law_simple) (defScope s_law_simple) .none kV29 dc29 pm29 an29 cd29 ct29), sl29⟩) (c29 : PySem.W.codeIn K cd29 "_law_simple" = true) (k29 : PySem.W.keepIn K (.ref f29) = true)
    (a30 : PySem.W.nsIn K mainGlobals "_law_tree" = some (some (.ref f30))) (l30 : K.lookup f30 = some ⟨oc30, od30, .func (PySem.W.fnOf "_law_tree" "_law_tree" (defArgs s_law_tree) (defBody s_law_tree) (defScope s_law_tree) .none kV30 dc30 pm30 an30 cd30 ct30), sl30⟩) (c30 : PySem.W.codeIn K cd30 "_law_tree" = true) (k30 : PySem.W.keepIn K (.ref f30) = true)
    (a31 : PySem.W.nsIn K mainGlobals "_law_plus_words" = some (some (.ref f31))) (l31 : K.lookup f31 = some ⟨oc31, od31, .func (PySem.W.fnOf "_law_plus_words" "_law_plus_words" (defArgs s_law_plus_words) (defBody s_law_plus_words) (defScope s_law_plus_words) .none kV31 dc31 pm31 an31 cd31 ct31), sl31⟩) (c31 : PySem.W.codeIn K cd31 "_law_plus_words" = true) (k31 : PySem.W.keepIn K (.ref f31) = true)
    (a32 : PySem.W.nsIn K mainGlobals "_law_words_of" = some (some (.ref f32))) (l32 : K.lookup f32 = some ⟨oc32, od32, .func (PySem.W.fnOf "_law_words_of" "_law_words_of" (defArgs s_law_words_of) (defBody s_law_words_of) (defScope s_law_words_of) .none kV32 dc32 pm32 an32 cd32 ct32), sl32⟩) (c32 : PySem.W.codeIn K cd32 "_law_words_of" = true) (k32 : PySem.W.keepIn K (.ref f32) = true)
    (a33 : PySem.W.nsIn K mainGlobals "_law_plus_text" = some (some (.ref f33))) (l33 : K.lookup f33 = some ⟨oc33, od33, .func (PySem.W.fnOf "_law_plus_text" "_law_plus_text" (defArgs s_law_plus_text) (defBody s_law_plus_text) (defScope s_law_plus_text) .none kV33 dc33 pm33 an33 cd33 ct33), sl33⟩) (c33 : PySem.W.codeIn K cd33 "_law_plus_text" = true) (k33 : PySem.W.keepIn K (.ref f33) = true)
    (a34 : PySem.W.nsIn K mainGlobals "_law_text" = some (some (.ref f34))) (l34 : K.lookup f34 = some ⟨oc34, od34, .func (PySem.W.fnOf "_law_text" "_law_text" (defArgs s_law_text) (defBody s_law_text) (defScope s_law_text) .none kV34 dc34 pm34 an34 cd34 ct34), sl34⟩) (c34 : PySem.W.codeIn K cd34 "_law_text" = true) (k34 : PySem.W.keepIn K (.ref f34) = true)
    (a35 : PySem.W.nsIn K mainGlobals "_law_needs" = some (some (.ref f35))) (l35 : K.lookup f35 = some ⟨oc35, od35, .func (PySem.W.fnOf "_law_needs" "_law_needs" (defArgs s_law_needs) (defBody s_law_needs) (defScope s_law_needs) .none kV35 dc35 pm35 an35 cd35 ct35), sl35⟩) (c35 : PySem.W.codeIn K cd35 "_law_needs" = true) (k35 : PySem.W.keepIn K (.ref f35) = true)
    (a36 : PySem.W.nsIn K mainGlobals "_law_condition_text" = some (some (.ref f36))) (l36 : K.lookup f36 = some ⟨oc36, od36, .func (PySem.W.fnOf "_law_condition_text" "_law_condition_text" (defArgs s_law_condition_text) (defBody s_law_condition_text) (defScope s_law_condition_text) .none kV36 dc36 pm36 an36 cd36 ct36), sl36⟩) (c36 : PySem.W.codeIn K cd36 "_law_condition_text" = true) (k36 : PySem.W.keepIn K (.ref f36) = true)
    (a37 : PySem.W.nsIn K mainGlobals "_law_joins" = some (some (.ref f37))) (l37 : K.lookup f37 = some ⟨oc37, od37, .func (PySem.W.fnOf "_law_joins" "_law_joins" (defArgs s_law_joins) (defBody s_law_joins) (defScope s_law_joins) .none kV37 dc37 pm37 an37 cd37 ct37), sl37⟩) (c37 : PySem.W.codeIn K cd37 "_law_joins" = true) (k37 : PySem.W.keepIn K (.ref f37) = true)
    (a38 : PySem.W.nsIn K mainGlobals "_law_spaced" = some (some (.ref f38))) (l38 : K.lookup f38 = some ⟨oc38, od38, .func (PySem.W.fnOf "_law_spaced" "_law_spaced" (defArgs s_law_spaced) (defBody s_law_spaced) (defScope s_law_spaced) .none kV38 dc38 pm38 an38 cd38 ct38), sl38⟩) (c38 : PySem.W.codeIn K cd38 "_law_spaced" = true) (k38 : PySem.W.keepIn K (.ref f38) = true)
    (a39 : PySem.W.nsIn K mainGlobals "_law_spoilt" = some (some (.ref f39))) (l39 : K.lookup f39 = some ⟨oc39, od39, .func (PySem.W.fnOf "_law_spoilt" "_law_spoilt" (defArgs s_law_spoilt) (defBody s_law_spoilt) (defScope s_law_spoilt) .none kV39 dc39 pm39 an39 cd39 ct39), sl39⟩) (c39 : PySem.W.codeIn K cd39 "_law_spoilt" = true) (k39 : PySem.W.keepIn K (.ref f39) = true)
    (a40 : PySem.W.nsIn K mainGlobals "_law_signed" = some (some (.ref f40))) (l40 : K.lookup f40 = some ⟨oc40, od40, .func (PySem.W.fnOf "_law_signed" "_law_signed" (defArgs s_law_signed) (defBody s_law_signed) (defScope s_law_signed) .none kV40 dc40 pm40 an40 cd40 ct40), sl40⟩) (c40 : PySem.W.codeIn K cd40 "_law_signed" = true) (k40 : PySem.W.keepIn K (.ref f40) = true)
    (a41 : PySem.W.nsIn K mainGlobals "_law_read_plus" = some (some (.ref f41))) (l41 : K.lookup f41 = some ⟨oc41, od41, .func (PySem.W.fnOf "_law_read_plus" "_law_read_plus" (defArgs s_law_read_plus) (defBody s_law_read_plus) (defScope s_law_read_plus) .none kV41 dc41 pm41 an41 cd41 ct41), sl41⟩) (c41 : PySem.W.codeIn K cd41 "_law_read_plus" = true) (k41 : PySem.W.keepIn K (.ref f41) = true)
    (a42 : PySem.W.nsIn K mainGlobals "_law_read_plain" = some (some (.ref f42))) (l42 : K.lookup f42 = some ⟨oc42, od42, .func (PySem.W.fnOf "_law_read_plain" "_law_read_plain" (defArgs s_law_read_plain) (defBody s_law_read_plain) (defScope s_law_read_plain) .none kV42 dc42 pm42 an42 cd42 ct42), sl42⟩) (c42 : PySem.W.codeIn K cd42 "_law_read_plain" = true) (k42 : PySem.W.keepIn K (.ref f42) = true)
    (a43 : PySem.W.nsIn K mainGlobals "_law_read" = some (some (.ref f43))) (l43 : K.lookup f43 = some ⟨oc43, od43, .func (PySem.W.fnOf "_law_read" "_law_read" (defArgs s_law_read) (defBody s_law_read) (defScope s_law_read) .none kV43 dc43 pm43 an43 cd43 ct43), sl43⟩) (c43 : PySem.W.codeIn K cd43 "_law_read" = true) (k43 : PySem.W.keepIn K (.ref f43) = true)
    (a44 : PySem.W.nsIn K mainGlobals "_law_same" = some (some (.ref f44))) (l44 : K.lookup f44 = some ⟨oc44, od44, .func (PySem.W.fnOf "_law_same" "_law_same" (defArgs s_law_same) (defBody s_law_same) (defScope s_law_same) .none kV44 dc44 pm44 an44 cd44 ct44), sl44⟩) (c44 : PySem.W.codeIn K cd44 "_law_same" = true) (k44 : PySem.W.keepIn K (.ref f44) = true)
    (a45 : PySem.W.nsIn K mainGlobals "_law_many" = some (some (.ref f45))) (l45 : K.lookup f45 = some ⟨oc45, od45, .func (PySem.W.fnOf "_law_many" "_law_many" (defArgs s_law_many) (defBody s_law_many) (defScope s_law_many) .none kV45 dc45 pm45 an45 cd45 ct45), sl45⟩) (c45 : PySem.W.codeIn K cd45 "_law_many" = true) (k45 : PySem.W.keepIn K (.ref f45) = true)
    (a46 : PySem.W.nsIn K mainGlobals "_law_dressed" = some (some (.ref f46))) (l46 : K.lookup f46 = some ⟨oc46, od46, .func (PySem.W.fnOf "_law_dressed" "_law_dressed" (defArgs s_law_dressed) (defBody s_law_dressed) (defScope s_law_dressed) .none kV46 dc46 pm46 an46 cd46 ct46), sl46⟩) (c46 : PySem.W.codeIn K cd46 "_law_dressed" = true) (k46 : PySem.W.keepIn K (.ref f46) = true)
    (a47 : PySem.W.nsIn K mainGlobals "_law_read_cmp" = some (some (.ref f47))) (l47 : K.lookup f47 = some ⟨oc47, od47, .func (PySem.W.fnOf "_law_read_cmp" "_law_read_cmp" (defArgs s_law_read_cmp) (defBody s_law_read_cmp) (defScope s_law_read_cmp) .none kV47 dc47 pm47 an47 cd47 ct47), sl47⟩) (c47 : PySem.W.codeIn K cd47 "_law_read_cmp" = true) (k47 : PySem.W.keepIn K (.ref f47) = true)
    (a48 : PySem.W.nsIn K mainGlobals "_law_read_not" = some (some (.ref f48))) (l48 : K.lookup f48 = some ⟨oc48, od48, .func (PySem.W.fnOf "_law_read_not" "_law_read_not" (defArgs s_law_read_not) (defBody s_law_read_not) (defScope s_law_read_not) .none kV48 dc48 pm48 an48 cd48 ct48), sl48⟩) (c48 : PySem.W.codeIn K cd48 "_law_read_not" = true) (k48 : PySem.W.keepIn K (.ref f48) = true)
    (a49 : PySem.W.nsIn K mainGlobals "_law_read_and" = some (some (.ref f49))) (l49 : K.lookup f49 = some ⟨oc49, od49, .func (PySem.W.fnOf "_law_read_and" "_law_read_and" (defArgs s_law_read_and) (defBody s_law_read_and) (defScope s_law_read_and) .none kV49 dc49 pm49 an49 cd49 ct49), sl49⟩) (c49 : PySem.W.codeIn K cd49 "_law_read_and" = true) (k49 : PySem.W.keepIn K (.ref f49) = true)
    (a50 : PySem.W.nsIn K mainGlobals "_law_read_or" = some (some (.ref f50))) (l50 : K.lookup f50 = some ⟨oc50, od50, .func (PySem.W.fnOf "_law_read_or" "_law_read_or" (defArgs s_law_read_or) (defBody s_law_read_or) (defScope s_law_read_or) .none kV50 dc50 pm50 an50 cd50 ct50), sl50⟩) (c50 : PySem.W.codeIn K cd50 "_law_read_or" = true) (k50 : PySem.W.keepIn K (.ref f50) = true)
    (a51 : PySem.W.nsIn K mainGlobals "_law_read_condition" = some (some (.ref f51))) (l51 : K.lookup f51 = some ⟨oc51, od51, .func (PySem.W.fnOf "_law_read_condition" "_law_read_condition" (defArgs s_law_read_condition) (defBody s_law_read_condition) (defScope s_law_read_condition) .none kV51 dc51 pm51 an51 cd51 ct51), sl51⟩) (c51 : PySem.W.codeIn K cd51 "_law_read_condition" = true) (k51 : PySem.W.keepIn K (.ref f51) = true)
    (a52 : PySem.W.nsIn K mainGlobals "law" = some (some (.ref f52))) (l52 : K.lookup f52 = some ⟨oc52, od52, .func (PySem.W.fnOf "law" "law" (defArgs s_law) (defBody s_law) (defScope s_law) .none kV52 dc52 pm52 an52 cd52 ct52), sl52⟩) (c52 : PySem.W.codeIn K cd52 "law" = true) (k52 : PySem.W.keepIn K (.ref f52) = true)
    (gg0 : PySem.W.nsIn K mainGlobals "LETTERS" = some (some (.str "abcdefghijklmnopqrstuvwxyz" tg0)))
    (gg1 : PySem.W.nsIn K mainGlobals "DIGITS" = some (some (.str "0123456789" tg1)))
    (gg2 : PySem.W.nsIn K mainGlobals "LONG_SIGNS" = some (some (.ref ag2))) (lg2 : K.lookup ag2 = some ⟨.type "tuple", dg2, .seq ig2 ng2, sg2⟩) (vg2 : strsB ig2.toList ["<=", ">=", "==", "!="] = true) (zg2 : decide (ig2.size ≤ 1000) = true)
    (gg3 : PySem.W.nsIn K mainGlobals "SHORT_SIGNS" = some (some (.str "<>=+-()[],:" tg3)))
    (gg4 : PySem.W.nsIn K mainGlobals "RESERVED" = some (some (.ref ag4))) (lg4 : K.lookup ag4 = some ⟨.type "tuple", dg4, .seq ig4 ng4, sg4⟩) (vg4 : strsB ig4.toList ["input", "from", "to", "list", "def", "let", "if", "else", "end", "while", "at", "most", "check", "refuse", "answer", "return", "skip", "and", "or", "not", "row", "yes", "no", "turn", "fault", "when", "then"] = true) (zg4 : decide (ig4.size ≤ 1000) = true)
    (gg5 : PySem.W.nsIn K mainGlobals "MOST_LETTERS" = some (some (.int 12 tg5)))
    (gg6 : PySem.W.nsIn K mainGlobals "MOST_DIGITS" = some (some (.int 10 tg6)))
    (gg7 : PySem.W.nsIn K mainGlobals "SIGNS" = some (some (.ref ag7))) (lg7 : K.lookup ag7 = some ⟨.type "tuple", dg7, .seq ig7 ng7, sg7⟩) (vg7 : strsB ig7.toList ["<", "<=", ">", ">=", "==", "!="] = true) (zg7 : decide (ig7.size ≤ 1000) = true)
    (gg8 : PySem.W.nsIn K mainGlobals "MOST_OPEN" = some (some (.int 8 tg8)))
    (z0 : PySem.W.nsIn K mainGlobals "abs" = some none) (z1 : PySem.W.nsIn K mainGlobals "bool" = some none) (z2 : PySem.W.nsIn K mainGlobals "int" = some none) (z3 : PySem.W.nsIn K mainGlobals "isinstance" = some none) (z4 : PySem.W.nsIn K mainGlobals "len" = some none) (z5 : PySem.W.nsIn K mainGlobals "list" = some none) (z6 : PySem.W.nsIn K mainGlobals "max" = some none) (z7 : PySem.W.nsIn K mainGlobals "range" = some none) (z8 : PySem.W.nsIn K mainGlobals "str" = some none) (z9 : PySem.W.nsIn K mainGlobals "tuple" = some none) :
    ∃ fd : FuncData, (∀ (s : Shared) (v : Value), BindsTo s fd ⟨[v], []⟩ [("_law_script", v)]) ∧ ∀ base : Heap, K.In base → base.Ns mainGlobals mg → FnOk l.prog w K mg base CX0 100 fa fd ["_law_script"] (spM K 1 f_law) := by
  have e := hfa.symm.trans (PySem.W.mg_of X G a52)
  cases e
  have T : Txt K mg := ⟨PySem.W.mg_none_of X G z0, PySem.W.mg_none_of X G z1, PySem.W.mg_none_of X G z2, PySem.W.mg_none_of X G z3, PySem.W.mg_none_of X G z4, PySem.W.mg_none_of X G z5, PySem.W.mg_none_of X G z6, PySem.W.mg_none_of X G z7, PySem.W.mg_none_of X G z8, PySem.W.mg_none_of X G z9, ⟨_, PySem.W.mg_of X G gg0⟩, ⟨_, PySem.W.mg_of X G gg1⟩, ⟨_, PySem.W.mg_of X G gg2, _, rfl, _, _, _, lg2, rfl, rfl, Nat.le_trans (of_decide_eq_true zg2) (by decide), vg2⟩, ⟨_, PySem.W.mg_of X G gg3⟩, ⟨_, PySem.W.mg_of X G gg4, _, rfl, _, _, _, lg4, rfl, rfl, Nat.le_trans (of_decide_eq_true zg4) (by decide), vg4⟩, ⟨_, PySem.W.mg_of X G gg5⟩, ⟨_, PySem.W.mg_of X G gg6⟩, ⟨_, PySem.W.mg_of X G gg7, _, rfl, _, _, _, lg7, rfl, rfl, Nat.le_trans (of_decide_eq_true zg7) (by decide), vg7⟩, ⟨_, PySem.W.mg_of X G gg8⟩⟩
  have F1 := fun_mk (st := s_run_end) l1 c1 k1
  have F2 := fun_mk (st := s_word_end) l2 c2 k2
  have F3 := fun_mk (st := s_split_row) l3 c3 k3
  have F4 := fun_mk (st := s_is_name) l4 c4 k4
  have F5 := fun_mk (st := s_is_number) l5 c5 k5
  have F6 := fun_mk (st := s_word_at) l6 c6 k6
  have F7 := fun_mk (st := s_signed_at) l7 c7 k7
  have F8 := fun_mk (st := s_plus_at) l8 c8 k8
  have F9 := fun_mk (st := s_plain_at) l9 c9 k9
  have F10 := fun_mk (st := s_expression_at) l10 c10 k10
  have F11 := fun_mk (st := s_comparison_at) l11 c11 k11
  have F12 := fun_mk (st := s_joined) l12 c12 k12
  have F13 := fun_mk (st := s_part_at) l13 c13 k13
  have F14 := fun_mk (st := s_and_at) l14 c14 k14
  have F15 := fun_mk (st := s_or_at) l15 c15 k15
  have F16 := fun_mk (st := s_made_of_all) l16 c16 k16
  have F17 := fun_mk (st := s_condition_of) l17 c17 k17
  have F18 := fun_mk (st := s_read_condition) l18 c18 k18
  have F19 := fun_mk (st := s_write_plus) l19 c19 k19
  have F20 := fun_mk (st := s_write_expression) l20 c20 k20
  have F21 := fun_mk (st := s_write_part) l21 c21 k21
  have F22 := fun_mk (st := s_write_condition) l22 c22 k22
  have F23 := fun_mk (st := s_law_draws) l23 c23 k23
  have F24 := fun_mk (st := s_law_take) l24 c24 k24
  have F25 := fun_mk (st := s_law_letters) l25 c25 k25
  have F26 := fun_mk (st := s_law_reserved) l26 c26 k26
  have F27 := fun_mk (st := s_law_is_name) l27 c27 k27
  have F28 := fun_mk (st := s_law_is_number) l28 c28 k28
  have F29 := fun_mk (st := s_law_simple) l29 c29 k29
  have F30 := fun_mk (st := s_law_tree) l30 c30 k30
  have F31 := fun_mk (st := s_law_plus_words) l31 c31 k31
  have F32 := fun_mk (st := s_law_words_of) l32 c32 k32
  have F33 := fun_mk (st := s_law_plus_text) l33 c33 k33
  have F34 := fun_mk (st := s_law_text) l34 c34 k34
  have F35 := fun_mk (st := s_law_needs) l35 c35 k35
  have F36 := fun_mk (st := s_law_condition_text) l36 c36 k36
  have F37 := fun_mk (st := s_law_joins) l37 c37 k37
  have F38 := fun_mk (st := s_law_spaced) l38 c38 k38
  have F39 := fun_mk (st := s_law_spoilt) l39 c39 k39
  have F40 := fun_mk (st := s_law_signed) l40 c40 k40
  have F41 := fun_mk (st := s_law_read_plus) l41 c41 k41
  have F42 := fun_mk (st := s_law_read_plain) l42 c42 k42
  have F43 := fun_mk (st := s_law_read) l43 c43 k43
  have F44 := fun_mk (st := s_law_same) l44 c44 k44
  have F45 := fun_mk (st := s_law_many) l45 c45 k45
  have F46 := fun_mk (st := s_law_dressed) l46 c46 k46
  have F47 := fun_mk (st := s_law_read_cmp) l47 c47 k47
  have F48 := fun_mk (st := s_law_read_not) l48 c48 k48
  have F49 := fun_mk (st := s_law_read_and) l49 c49 k49
  have F50 := fun_mk (st := s_law_read_or) l50 c50 k50
  have F51 := fun_mk (st := s_law_read_condition) l51 c51 k51
  have F52 := fun_mk (st := s_law) l52 c52 k52
  refine ⟨PySem.W.fnOf "law" "law" (defArgs s_law) (defBody s_law) (defScope s_law) .none kV52 dc52 pm52 an52 cd52 ct52, fun s v => .of_eq rfl, fun base _ _ => ?_⟩
  have G_run_end : Fnn l.prog w K mg base 1 "run_end" ["text", "start", "signs"] f_run_end := ok_run_end T  F1 (PySem.W.mg_of X G a1)
  have G_word_end : Fnn l.prog w K mg base 2 "word_end" ["text", "start"] f_word_end := ok_word_end T G_run_end F2 (PySem.W.mg_of X G a2)
  have G_split_row : Fnn l.prog w K mg base 3 "split_row" ["text"] f_split_row := ok_split_row T G_run_end G_word_end F3 (PySem.W.mg_of X G a3)
  have G_is_name : Fnn l.prog w K mg base 2 "is_name" ["word"] f_is_name := ok_is_name T G_run_end F4 (PySem.W.mg_of X G a4)
  have G_is_number : Fnn l.prog w K mg base 2 "is_number" ["word"] f_is_number := ok_is_number T G_run_end F5 (PySem.W.mg_of X G a5)
  have G_word_at : Fnn l.prog w K mg base 1 "word_at" ["words", "at"] f_word_at := ok_word_at T  F6 (PySem.W.mg_of X G a6)
  have G_signed_at : Fnn l.prog w K mg base 3 "signed_at" ["words", "at"] f_signed_at := ok_signed_at T G_is_number G_word_at F7 (PySem.W.mg_of X G a7)
  have G_plus_at : Fnn l.prog w K mg base 3 "plus_at" ["words", "at"] f_plus_at := ok_plus_at T G_is_number G_word_at F8 (PySem.W.mg_of X G a8)
  have G_plain_at : Fnn l.prog w K mg base 4 "plain_at" ["words", "at"] f_plain_at := ok_plain_at T G_is_name G_word_at G_signed_at G_plus_at F9 (PySem.W.mg_of X G a9)
  have G_expression_at : Fnn l.prog w K mg base 5 "expression_at" ["words", "at"] f_expression_at := ok_expression_at T G_is_name G_word_at G_plus_at G_plain_at F10 (PySem.W.mg_of X G a10)
  have G_comparison_at : Fnn l.prog w K mg base 6 "comparison_at" ["words", "at"] f_comparison_at := ok_comparison_at T G_word_at G_expression_at F11 (PySem.W.mg_of X G a11)
  have G_joined : Fnn l.prog w K mg base 1 "joined" ["word", "parts"] f_joined := ok_joined T  F12 (PySem.W.mg_of X G a12)
  have G_scc_part_at := ok_scc_part_at (P := l.prog) (w := w) (base := base) T G_word_at G_comparison_at G_joined F13 (PySem.W.mg_of X G a13) F14 (PySem.W.mg_of X G a14) F15 (PySem.W.mg_of X G a15) 48
  have G_part_at : Fnn l.prog w K mg base 55 "part_at" ["words", "at", "opened"] (f_part_at 48) := G_scc_part_at.1
  have G_and_at : Fnn l.prog w K mg base 55 "and_at" ["words", "at", "opened"] (f_and_at 48) := G_scc_part_at.2.1
  have G_or_at : Fnn l.prog w K mg base 55 "or_at" ["words", "at", "opened"] (f_or_at 48) := G_scc_part_at.2.2
  have G_made_of_all : Fnn l.prog w K mg base 1 "made_of_all" ["read", "words"] f_made_of_all := ok_made_of_all T  F16 (PySem.W.mg_of X G a16)
  have G_condition_of : Fnn l.prog w K mg base 56 "condition_of" ["words"] f_condition_of := ok_condition_of T G_or_at G_made_of_all F17 (PySem.W.mg_of X G a17)
  have G_read_condition : Fnn l.prog w K mg base 57 "read_condition" ["text"] f_read_condition := ok_read_condition T G_split_row G_condition_of F18 (PySem.W.mg_of X G a18)
  have G_write_plus : Fnn l.prog w K mg base 1 "write_plus" ["plus"] f_write_plus := ok_write_plus T  F19 (PySem.W.mg_of X G a19)
  have G_write_expression : Fnn l.prog w K mg base 50 "write_expression" ["expression"] (f_write_expression 48) := ok_write_expression T G_write_plus F20 (PySem.W.mg_of X G a20) 48
  have G_scc_write_part := ok_scc_write_part (P := l.prog) (w := w) (base := base) T G_write_expression F21 (PySem.W.mg_of X G a21) F22 (PySem.W.mg_of X G a22) 48
  have G_write_part : Fnn l.prog w K mg base 99 "write_part" ["condition", "wrapped"] (f_write_part 48) := G_scc_write_part.1
  have G_write_condition : Fnn l.prog w K mg base 99 "write_condition" ["condition"] (f_write_condition 48) := G_scc_write_part.2
  have G_law_draws : Fnn l.prog w K mg base 1 "_law_draws" ["_law_script", "_law_many_here"] f_law_draws := ok_law_draws T  F23 (PySem.W.mg_of X G a23)
  have G_law_take : Fnn l.prog w K mg base 1 "_law_take" ["_law_hand", "_law_many_here"] f_law_take := ok_law_take T  F24 (PySem.W.mg_of X G a24)
  have G_law_letters : Fnn l.prog w K mg base 1 "_law_letters" [] f_law_letters := ok_law_letters T  F25 (PySem.W.mg_of X G a25)
  have G_law_reserved : Fnn l.prog w K mg base 1 "_law_reserved" [] f_law_reserved := ok_law_reserved T  F26 (PySem.W.mg_of X G a26)
  have G_law_is_name : Fnn l.prog w K mg base 2 "_law_is_name" ["_law_word"] f_law_is_name := ok_law_is_name T G_law_letters G_law_reserved F27 (PySem.W.mg_of X G a27)
  have G_law_is_number : Fnn l.prog w K mg base 1 "_law_is_number" ["_law_word"] f_law_is_number := ok_law_is_number T  F28 (PySem.W.mg_of X G a28)
  have G_law_simple : Fnn l.prog w K mg base 2 "_law_simple" ["_law_hand"] f_law_simple := ok_law_simple T G_law_take F29 (PySem.W.mg_of X G a29)
  have G_law_tree : Fnn l.prog w K mg base 51 "_law_tree" ["_law_hand", "_law_depth", "_law_purse"] (f_law_tree 48) := ok_law_tree T G_law_take G_law_simple F30 (PySem.W.mg_of X G a30) 48
  have G_law_plus_words : Fnn l.prog w K mg base 1 "_law_plus_words" ["_law_plus"] f_law_plus_words := ok_law_plus_words T  F31 (PySem.W.mg_of X G a31)
  have G_law_words_of : Fnn l.prog w K mg base 50 "_law_words_of" ["_law_expression"] (f_law_words_of 48) := ok_law_words_of T G_law_plus_words F32 (PySem.W.mg_of X G a32) 48
  have G_law_plus_text : Fnn l.prog w K mg base 1 "_law_plus_text" ["_law_plus"] f_law_plus_text := ok_law_plus_text T  F33 (PySem.W.mg_of X G a33)
  have G_law_text : Fnn l.prog w K mg base 50 "_law_text" ["_law_expression"] (f_law_text 48) := ok_law_text T G_law_plus_text F34 (PySem.W.mg_of X G a34) 48
  have G_law_needs : Fnn l.prog w K mg base 1 "_law_needs" ["_law_word", "_law_part"] f_law_needs := ok_law_needs T  F35 (PySem.W.mg_of X G a35)
  have G_law_condition_text : Fnn l.prog w K mg base 99 "_law_condition_text" ["_law_condition"] (f_law_condition_text 48) := ok_law_condition_text T G_law_text G_law_needs F36 (PySem.W.mg_of X G a36) 48
  have G_law_joins : Fnn l.prog w K mg base 2 "_law_joins" ["_law_left", "_law_right"] f_law_joins := ok_law_joins T G_law_letters F37 (PySem.W.mg_of X G a37)
  have G_law_spaced : Fnn l.prog w K mg base 3 "_law_spaced" ["_law_hand", "_law_words"] f_law_spaced := ok_law_spaced T G_law_take G_law_joins F38 (PySem.W.mg_of X G a38)
  have G_law_spoilt : Fnn l.prog w K mg base 2 "_law_spoilt" ["_law_hand", "_law_words"] f_law_spoilt := ok_law_spoilt T G_law_take G_law_reserved F39 (PySem.W.mg_of X G a39)
  have G_law_signed : Fnn l.prog w K mg base 2 "_law_signed" ["_law_words", "_law_at"] f_law_signed := ok_law_signed T G_law_is_number F40 (PySem.W.mg_of X G a40)
  have G_law_read_plus : Fnn l.prog w K mg base 2 "_law_read_plus" ["_law_words", "_law_at"] f_law_read_plus := ok_law_read_plus T G_law_is_number F41 (PySem.W.mg_of X G a41)
  have G_law_read_plain : Fnn l.prog w K mg base 3 "_law_read_plain" ["_law_words", "_law_at"] f_law_read_plain := ok_law_read_plain T G_law_is_name G_law_signed G_law_read_plus F42 (PySem.W.mg_of X G a42)
  have G_law_read : Fnn l.prog w K mg base 4 "_law_read" ["_law_words", "_law_at"] f_law_read := ok_law_read T G_law_is_name G_law_read_plus G_law_read_plain F43 (PySem.W.mg_of X G a43)
  have G_law_same : Fnn l.prog w K mg base 49 "_law_same" ["_law_found", "_law_expected"] (f_law_same 48) := ok_law_same T  F44 (PySem.W.mg_of X G a44) 48
  have G_law_many : Fnn l.prog w K mg base 2 "_law_many" ["_law_hand"] f_law_many := ok_law_many T G_law_take F45 (PySem.W.mg_of X G a45)
  have G_law_dressed : Fnn l.prog w K mg base 99 "_law_dressed" ["_law_hand", "_law_condition", "_law_pairs", "_law_more"] (f_law_dressed 48) := ok_law_dressed T G_law_words_of G_law_needs G_law_many F46 (PySem.W.mg_of X G a46) 48
  have G_law_read_cmp : Fnn l.prog w K mg base 5 "_law_read_cmp" ["_law_words", "_law_at"] f_law_read_cmp := ok_law_read_cmp T G_law_read F47 (PySem.W.mg_of X G a47)
  have G_scc_law_read_not := ok_scc_law_read_not (P := l.prog) (w := w) (base := base) T G_law_read_cmp F48 (PySem.W.mg_of X G a48) F49 (PySem.W.mg_of X G a49) F50 (PySem.W.mg_of X G a50) 48
  have G_law_read_not : Fnn l.prog w K mg base 54 "_law_read_not" ["_law_words", "_law_at", "_law_opened"] (f_law_read_not 48) := G_scc_law_read_not.1
  have G_law_read_and : Fnn l.prog w K mg base 54 "_law_read_and" ["_law_words", "_law_at", "_law_opened"] (f_law_read_and 48) := G_scc_law_read_not.2.1
  have G_law_read_or : Fnn l.prog w K mg base 54 "_law_read_or" ["_law_words", "_law_at", "_law_opened"] (f_law_read_or 48) := G_scc_law_read_not.2.2
  have G_law_read_condition : Fnn l.prog w K mg base 55 "_law_read_condition" ["_law_words"] f_law_read_condition := ok_law_read_condition T G_law_read_or F51 (PySem.W.mg_of X G a51)
  exact fn_law T G_read_condition G_write_condition G_law_draws G_law_take G_law_tree G_law_condition_text G_law_spaced G_law_spoilt G_law_same G_law_many G_law_dressed G_law_read_condition F52
end Lk03

/-! the end of k03, printed by gen.py -/
namespace Lk03
open PySem PySem.Spec L2 M
theorem walk {l : PySem.W.OpenLaw} {q : Program} {loose : List Str} {XP : (Str → Option Value) → Heap → Prop} {YP : World → Heap → Prop} {d : DefRec} {K : Params → PySem.W.Frag} (hn : l.most = some 63) (hdf : d.params.defaults = [])
    (hY : ∀ (w : World) (h : Heap), YP w h → (K w.params).In h)
    (F : ∀ (w : World) (mg : Str → Option Value) (fa : Addr) (h : Heap), (K w.params).In h → h.Ns mainGlobals mg → mg d.name = some (.ref fa) →
      ∃ fd : FuncData, (∀ (s : Shared) (u : Value), BindsTo s fd ⟨[u], []⟩ [("_law_script", u)]) ∧ ∀ base : Heap, (K w.params).In base → base.Ns mainGlobals mg → FnOk l.prog w (K w.params) mg base CX0 100 fa fd ["_law_script"] (spM (K w.params) 1 f_law)) :
    PySem.W.WalkO q loose XP YP l.row.toRowW d [] (fun f vs => PySem.call f vs) :=
  L2.walk_ofB (n := 63) (k := 100) (x := "_law_script") (CX := fun _ => CX0) (sp := fun w => spM (K w.params) 1 f_law) hn (by decide) hdf ⟨rfl, by decide, by decide⟩ hY F (fun w H a ns hl hb _ hS => by
    obtain ⟨m', e⟩ := law_true ns hl hb
    exact law_sp hS e) fun _ _ _ _ _ z => z
end Lk03
open PySem PySem.W PyProof.Rows
set_option maxRecDepth 100000 in
set_option maxHeartbeats 0 in
theorem PySem.Challenge.cw_wayorring_k03_conditions_read_back_holds : PySem.Challenge.rw_wayorring_k03_conditions_read_back.Holds := by
  w_on; o_law; k_head; (case hw => w_witness2)
  k_fill
  refine Lk03.walk (l := PySem.Challenge.rw_wayorring_k03_conditions_read_back) rfl rfl (fun w h Y => PySem.W.kIn_of Y) ?F
  case F =>
    intro w mg fa h KX G hmg
    refine' Lk03.all_mk KX G hmg ?a1 ?l1 ?c1 ?k1 ?a2 ?l2 ?c2 ?k2 ?a3 ?l3 ?c3 ?k3 ?a4 ?l4 ?c4 ?k4 ?a5 ?l5 ?c5 ?k5 ?a6 ?l6 ?c6 ?k6 ?a7 ?l7 ?c7 ?k7 ?a8 ?l8 ?c8 ?k8 ?a9 ?l9 ?c9 ?k9 ?a10 ?l10 ?c10 ?k10 ?a11 ?l11 ?c11 ?k11 ?a12 ?l12 ?c12 ?k12 ?a13 ?l13 ?c13 ?k13 ?a14 ?l14 ?c14 ?k14 ?a15 ?l15 ?c15 ?k15 ?a16 ?l16 ?c16 ?k16 ?a17 ?l17 ?c17 ?k17 ?a18 ?l18 ?c18 ?k18 ?a19 ?l19 ?c19 ?k19 ?a20 ?l20 ?c20 ?k20 ?a21 ?l21 ?c21 ?k21 ?a22 ?l22 ?c22 ?k22 ?a23 ?l23 ?c23 ?k23 ?a24 ?l24 ?c24 ?k24 ?a25 ?l25 ?c25 ?k25 ?a26 ?l26 ?c26 ?k26 ?a27 ?l27 ?c27 ?k27 ?a28 ?l28 ?c28 ?k28 ?a29 ?l29 ?c29 ?k29 ?a30 ?l30 ?c30 ?k30 ?a31 ?l31 ?c31 ?k31 ?a32 ?l32 ?c32 ?k32 ?a33 ?l33 ?c33 ?k33 ?a34 ?l34 ?c34 ?k34 ?a35 ?l35 ?c35 ?k35 ?a36 ?l36 ?c36 ?k36 ?a37 ?l37 ?c37 ?k37 ?a38 ?l38 ?c38 ?k38 ?a39 ?l39 ?c39 ?k39 ?a40 ?l40 ?c40 ?k40 ?a41 ?l41 ?c41 ?k41 ?a42 ?l42 ?c42 ?k42 ?a43 ?l43 ?c43 ?k43 ?a44 ?l44 ?c44 ?k44 ?a45 ?l45 ?c45 ?k45 ?a46 ?l46 ?c46 ?k46 ?a47 ?l47 ?c47 ?k47 ?a48 ?l48 ?c48 ?k48 ?a49 ?l49 ?c49 ?k49 ?a50 ?l50 ?c50 ?k50 ?a51 ?l51 ?c51 ?k51 ?a52 ?l52 ?c52 ?k52 ?gg0 ?gg1 ?gg2 ?lg2 ?vg2 ?zg2 ?gg3 ?gg4 ?lg4 ?vg4 ?zg4 ?gg5 ?gg6 ?gg7 ?lg7 ?vg7 ?zg7 ?gg8 ?z0 ?z1 ?z2 ?z3 ?z4 ?z5 ?z6 ?z7 ?z8 ?z9
    (case a1 => k_is); (case l1 => k_is); (case c1 => k_is); (case k1 => k_is); (case a2 => k_is); (case l2 => k_is)
    (case c2 => k_is); (case k2 => k_is); (case a3 => k_is); (case l3 => k_is); (case c3 => k_is); (case k3 => k_is)
    (case a4 => k_is); (case l4 => k_is); (case c4 => k_is); (case k4 => k_is); (case a5 => k_is); (case l5 => k_is)
    (case c5 => k_is); (case k5 => k_is); (case a6 => k_is); (case l6 => k_is); (case c6 => k_is); (case k6 => k_is)
    (case a7 => k_is); (case l7 => k_is); (case c7 => k_is); (case k7 => k_is); (case a8 => k_is); (case l8 => k_is)
    (case c8 => k_is); (case k8 => k_is); (case a9 => k_is); (case l9 => k_is); (case c9 => k_is); (case k9 => k_is)
    (case a10 => k_is); (case l10 => k_is); (case c10 => k_is); (case k10 => k_is); (case a11 => k_is); (case l11 => k_is)
    (case c11 => k_is); (case k11 => k_is); (case a12 => k_is); (case l12 => k_is); (case c12 => k_is); (case k12 => k_is)
    (case a13 => k_is); (case l13 => k_is); (case c13 => k_is); (case k13 => k_is); (case a14 => k_is); (case l14 => k_is)
    (case c14 => k_is); (case k14 => k_is); (case a15 => k_is); (case l15 => k_is); (case c15 => k_is); (case k15 => k_is)
    (case a16 => k_is); (case l16 => k_is); (case c16 => k_is); (case k16 => k_is); (case a17 => k_is); (case l17 => k_is)
    (case c17 => k_is); (case k17 => k_is); (case a18 => k_is); (case l18 => k_is); (case c18 => k_is); (case k18 => k_is)
    (case a19 => k_is); (case l19 => k_is); (case c19 => k_is); (case k19 => k_is); (case a20 => k_is); (case l20 => k_is)
    (case c20 => k_is); (case k20 => k_is); (case a21 => k_is); (case l21 => k_is); (case c21 => k_is); (case k21 => k_is)
    (case a22 => k_is); (case l22 => k_is); (case c22 => k_is); (case k22 => k_is); (case a23 => k_is); (case l23 => k_is)
    (case c23 => k_is); (case k23 => k_is); (case a24 => k_is); (case l24 => k_is); (case c24 => k_is); (case k24 => k_is)
    (case a25 => k_is); (case l25 => k_is); (case c25 => k_is); (case k25 => k_is); (case a26 => k_is); (case l26 => k_is)
    (case c26 => k_is); (case k26 => k_is); (case a27 => k_is); (case l27 => k_is); (case c27 => k_is); (case k27 => k_is)
    (case a28 => k_is); (case l28 => k_is); (case c28 => k_is); (case k28 => k_is); (case a29 => k_is); (case l29 => k_is)
    (case c29 => k_is); (case k29 => k_is); (case a30 => k_is); (case l30 => k_is); (case c30 => k_is); (case k30 => k_is)
    (case a31 => k_is); (case l31 => k_is); (case c31 => k_is); (case k31 => k_is); (case a32 => k_is); (case l32 => k_is)
    (case c32 => k_is); (case k32 => k_is); (case a33 => k_is); (case l33 => k_is); (case c33 => k_is); (case k33 => k_is)
    (case a34 => k_is); (case l34 => k_is); (case c34 => k_is); (case k34 => k_is); (case a35 => k_is); (case l35 => k_is)
    (case c35 => k_is); (case k35 => k_is); (case a36 => k_is); (case l36 => k_is); (case c36 => k_is); (case k36 => k_is)
    (case a37 => k_is); (case l37 => k_is); (case c37 => k_is); (case k37 => k_is); (case a38 => k_is); (case l38 => k_is)
    (case c38 => k_is); (case k38 => k_is); (case a39 => k_is); (case l39 => k_is); (case c39 => k_is); (case k39 => k_is)
    (case a40 => k_is); (case l40 => k_is); (case c40 => k_is); (case k40 => k_is); (case a41 => k_is); (case l41 => k_is)
    (case c41 => k_is); (case k41 => k_is); (case a42 => k_is); (case l42 => k_is); (case c42 => k_is); (case k42 => k_is)
    (case a43 => k_is); (case l43 => k_is); (case c43 => k_is); (case k43 => k_is); (case a44 => k_is); (case l44 => k_is)
    (case c44 => k_is); (case k44 => k_is); (case a45 => k_is); (case l45 => k_is); (case c45 => k_is); (case k45 => k_is)
    (case a46 => k_is); (case l46 => k_is); (case c46 => k_is); (case k46 => k_is); (case a47 => k_is); (case l47 => k_is)
    (case c47 => k_is); (case k47 => k_is); (case a48 => k_is); (case l48 => k_is); (case c48 => k_is); (case k48 => k_is)
    (case a49 => k_is); (case l49 => k_is); (case c49 => k_is); (case k49 => k_is); (case a50 => k_is); (case l50 => k_is)
    (case c50 => k_is); (case k50 => k_is); (case a51 => k_is); (case l51 => k_is); (case c51 => k_is); (case k51 => k_is)
    (case a52 => k_is); (case l52 => k_is); (case c52 => k_is); (case k52 => k_is); (case gg0 => k_is); (case gg1 => k_is)
    (case gg2 => k_is); (case lg2 => k_is); (case vg2 => first | k_is | rfl | decide +kernel); (case zg2 => first | k_is | rfl | decide +kernel); (case gg3 => k_is); (case gg4 => k_is)
    (case lg4 => k_is); (case vg4 => first | k_is | rfl | decide +kernel); (case zg4 => first | k_is | rfl | decide +kernel); (case gg5 => k_is); (case gg6 => k_is); (case gg7 => k_is)
    (case lg7 => k_is); (case vg7 => first | k_is | rfl | decide +kernel); (case zg7 => first | k_is | rfl | decide +kernel); (case gg8 => k_is); (case z0 => k_is); (case z1 => k_is)
    (case z2 => k_is); (case z3 => k_is); (case z4 => k_is); (case z5 => k_is); (case z6 => k_is); (case z7 => k_is)
    (case z8 => k_is); (case z9 => k_is)
#print axioms PySem.Challenge.cw_wayorring_k03_conditions_read_back_holds

