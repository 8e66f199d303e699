import PyProof.Rows.All
import Wide.All
import OpenK.AllK
import Wide.FinOn
import HandS.ForMost
import HandS.IsInst
import HandS.Wide
import HandS.Flow
import HandS.TupAny
import HandS.Deep
import HandS.EndBits
import HandS.More
import HandS.TupLe
import HandS.Style
import HandS.FStrTup
import PyProof.Rows.RegStrFacts
import HandS.WordsDict
import HandS.Text
import HandS.Iter
import PyProof.StrBlock2
import PyProof.Rows.StrMul
import HandS.FStr
import PyProof.StrLawsRepr
import HandS.ForExc
import HandS.ExcInit
import HandS.ExcField
import HandS.ExcIs
import HandS.Conv
import HandS.Property
import HandS.Defaults
import HandS.Zip
import HandS.NoneIn
import HandS.CallSlots
import PyProof.StrLaws
import PySem.Challenge.RW_wayorring_k13_functions_ranges_and_input
set_option Elab.async false
set_option linter.all false
set_option maxRecDepth 100000
set_option maxHeartbeats 4000000
/-! M0: a small machine over data D (values without addresses), states Ms, and how a heap bears them. -/
namespace M
open PySem L2

inductive D where
  | non | bl (b : Bool) | int (i : Int) | str (s : Str)
  | tup (ds : List D) | lst (ds : List D) | sc (ds : List D)
  | dct (kds : List (Key × D)) | ref (k : Nat)
deriving Inhabited

inductive Cell where
  | lst (ds : List D) | dct (kds : List (Key × D)) | obj (C : Addr) (fs : List (Str × D)) | dT (kds : List (List Key × D))

inductive Slot where
  | emp | val (d : D) | own (c : Cell)

structure Ms where
  r : List Slot
  m : List Cell

inductive Fl where
  | nx | bk | ct | rt (d : D)

mutual
inductive RV (K : PySem.W.Frag) (F : Hp) (io : List Addr) : V → D → Prop
  | non : RV K F io .non .non
  | bl (b : Bool) : RV K F io (.bl b) (.bl b)
  | int (i : Int) : RV K F io (.int i) (.int i)
  | str (s : Str) : RV K F io (.str s) (.str s)
  | tup {a : Addr} {vs : List V} {ds : List D} : SqT K F a vs → RVs K F io vs ds → RV K F io (.ref a) (.tup ds)
  | lst {a : Addr} {vs : List V} {ds : List D} : F a = some (.lst vs) → RVs K F io vs ds → RV K F io (.ref a) (.lst ds)
  | sc {a : Addr} {vs : List V} {ds : List D} : SqL K F a vs → RVs K F io vs ds → RV K F io (.ref a) (.sc ds)
  | dct {a : Addr} {kvs : List (Key × V)} {kds : List (Key × D)} : F a = some (.dK kvs) → RVk K F io kvs kds → RV K F io (.ref a) (.dct kds)
  | ref {a : Addr} {k : Nat} : io[k]? = some a → RV K F io (.ref a) (.ref k)
inductive RVs (K : PySem.W.Frag) (F : Hp) (io : List Addr) : List V → List D → Prop
  | nil : RVs K F io [] []
  | cons {v : V} {vs : List V} {d : D} {ds : List D} : RV K F io v d → RVs K F io vs ds → RVs K F io (v :: vs) (d :: ds)
inductive RVk (K : PySem.W.Frag) (F : Hp) (io : List Addr) : List (Key × V) → List (Key × D) → Prop
  | nil : RVk K F io [] []
  | cons {k : Key} {v : V} {vs : List (Key × V)} {d : D} {ds : List (Key × D)} : RV K F io v d → RVk K F io vs ds → RVk K F io ((k, v) :: vs) ((k, d) :: ds)
end

section
variable {K : PySem.W.Frag} {F F' : Hp} {io io' : List Addr}
theorem sqT_mono {a : Addr} {vs : List V} (hF : ∀ a o, F a = some o → F' a = some o) (h : SqT K F a vs) : SqT K F' a vs := by
  rcases h with (h | ⟨o, h⟩) | h
  · exact .inl (.inl (hF _ _ h))
  · exact .inl (.inr ⟨o, hF _ _ h⟩)
  · exact .inr h
theorem sqL_mono {a : Addr} {vs : List V} (hF : ∀ a o, F a = some o → F' a = some o) (h : SqL K F a vs) : SqL K F' a vs := by
  rcases h with (h | ⟨o, h⟩) | h
  · exact .inl (.inl (hF _ _ h))
  · exact .inl (.inr ⟨o, hF _ _ h⟩)
  · exact .inr h
theorem pre_get {io io' : List Addr} {k : Nat} {a : Addr} (h : io <+: io') (e : io[k]? = some a) : io'[k]? = some a := by
  obtain ⟨r, rfl⟩ := h
  rw [List.getElem?_append_left (List.getElem?_eq_some_iff.mp e).1]
  exact e
theorem RV.mono (hF : ∀ a o, F a = some o → F' a = some o) (hi : io <+: io') {v : V} {d : D} (h : RV K F io v d) : RV K F' io' v d := by
  refine RV.rec (K := K) (F := F) (io := io) (motive_1 := fun v d _ => RV K F' io' v d) (motive_2 := fun vs ds _ => RVs K F' io' vs ds) (motive_3 := fun vs ds _ => RVk K F' io' vs ds) ?_ ?_ ?_ ?_ ?_ ?_ ?_ ?_ ?_ ?_ ?_ ?_ ?_ h
  · exact .non
  · exact .bl
  · exact .int
  · exact .str
  · exact fun h _ ih => .tup (sqT_mono hF h) ih
  · exact fun h _ ih => .lst (hF _ _ h) ih
  · exact fun h _ ih => .sc (sqL_mono hF h) ih
  · exact fun h _ ih => .dct (hF _ _ h) ih
  · exact fun h => .ref (pre_get hi h)
  · exact .nil
  · exact fun _ _ i1 i2 => .cons i1 i2
  · exact .nil
  · exact fun _ _ i1 i2 => .cons i1 i2
theorem RVs.mono (hF : ∀ a o, F a = some o → F' a = some o) (hi : io <+: io') : ∀ {vs : List V} {ds : List D}, RVs K F io vs ds → RVs K F' io' vs ds
  | _, _, .nil => .nil
  | _, _, .cons h t => .cons (h.mono hF hi) (RVs.mono hF hi t)
theorem RVk.mono (hF : ∀ a o, F a = some o → F' a = some o) (hi : io <+: io') : ∀ {vs : List (Key × V)} {ds : List (Key × D)}, RVk K F io vs ds → RVk K F' io' vs ds
  | _, _, .nil => .nil
  | _, _, .cons h t => .cons (h.mono hF hi) (RVk.mono hF hi t)
theorem RVs.length : ∀ {vs : List V} {ds : List D}, RVs K F io vs ds → vs.length = ds.length
  | _, _, .nil => rfl
  | _, _, .cons _ t => by simp [t.length]
theorem RVs.get : ∀ {vs : List V} {ds : List D} {i : Nat} {d : D}, RVs K F io vs ds → ds[i]? = some d → ∃ v, vs[i]? = some v ∧ RV K F io v d
  | _, _, _, _, .nil, e => by simp at e
  | _, _, 0, _, .cons h _, e => by simp at e; subst e; exact ⟨_, rfl, h⟩
  | _, _, i + 1, _, .cons _ t, e => by simpa using RVs.get (i := i) t (by simpa using e)
theorem RVs.append : ∀ {vs ws : List V} {ds es : List D}, RVs K F io vs ds → RVs K F io ws es → RVs K F io (vs ++ ws) (ds ++ es)
  | _, _, _, _, .nil, s => s
  | _, _, _, _, .cons h t, s => .cons h (t.append s)
theorem RVs.set : ∀ {vs : List V} {ds : List D} {v : V} {d : D} (j : Nat), RVs K F io vs ds → RV K F io v d → RVs K F io (vs.set j v) (ds.set j d)
  | _, _, _, _, _, .nil, _ => .nil
  | _, _, _, _, 0, .cons _ t, h => .cons h t
  | _, _, _, _, j + 1, .cons q t, h => .cons q (RVs.set j t h)
theorem RVs.drop : ∀ {vs : List V} {ds : List D} (n : Nat), RVs K F io vs ds → RVs K F io (vs.drop n) (ds.drop n)
  | _, _, 0, h => h
  | _, _, _ + 1, .nil => .nil
  | _, _, n + 1, .cons _ t => RVs.drop n t
theorem RVs.take : ∀ {vs : List V} {ds : List D} (n : Nat), RVs K F io vs ds → RVs K F io (vs.take n) (ds.take n)
  | _, _, 0, _ => .nil
  | _, _, _ + 1, .nil => .nil
  | _, _, n + 1, .cons h t => .cons h (RVs.take n t)
theorem RVs.dropLast {vs : List V} {ds : List D} (h : RVs K F io vs ds) : RVs K F io vs.dropLast ds.dropLast := by
  rw [List.dropLast_eq_take, List.dropLast_eq_take, h.length]
  exact h.take _
theorem RVs.reverse : ∀ {vs : List V} {ds : List D}, RVs K F io vs ds → RVs K F io vs.reverse ds.reverse
  | _, _, .nil => .nil
  | _, _, .cons h t => by
    rw [List.reverse_cons, List.reverse_cons]
    exact t.reverse.append (.cons h .nil)
theorem RVs.ints (ns : List Int) : RVs K F io (ns.map V.int) (ns.map D.int) := by
  induction ns with
  | nil => exact .nil
  | cons n r ih => exact .cons (.int n) ih
theorem RV.int_inv {v : V} {i : Int} (h : RV K F io v (.int i)) : v = .int i := by cases h; rfl
theorem RV.bl_inv {v : V} {i : Bool} (h : RV K F io v (.bl i)) : v = .bl i := by cases h; rfl
theorem RV.str_inv {v : V} {i : Str} (h : RV K F io v (.str i)) : v = .str i := by cases h; rfl
theorem RV.non_inv {v : V} (h : RV K F io v .non) : v = .non := by cases h; rfl
theorem RV.tup_inv {v : V} {ds : List D} (h : RV K F io v (.tup ds)) : ∃ a vs, v = .ref a ∧ SqT K F a vs ∧ RVs K F io vs ds := by
  cases h with
  | tup h1 h2 => exact ⟨_, _, rfl, h1, h2⟩
theorem RV.lst_inv {v : V} {ds : List D} (h : RV K F io v (.lst ds)) : ∃ a vs, v = .ref a ∧ F a = some (.lst vs) ∧ RVs K F io vs ds := by
  cases h with
  | lst h1 h2 => exact ⟨_, _, rfl, h1, h2⟩
theorem RV.sc_inv {v : V} {ds : List D} (h : RV K F io v (.sc ds)) : ∃ a vs, v = .ref a ∧ SqL K F a vs ∧ RVs K F io vs ds := by
  cases h with
  | sc h1 h2 => exact ⟨_, _, rfl, h1, h2⟩
theorem RV.dct_inv {v : V} {ds : List (Key × D)} (h : RV K F io v (.dct ds)) : ∃ a vs, v = .ref a ∧ F a = some (.dK vs) ∧ RVk K F io vs ds := by
  cases h with
  | dct h1 h2 => exact ⟨_, _, rfl, h1, h2⟩
theorem RV.ref_inv {v : V} {k : Nat} (h : RV K F io v (.ref k)) : ∃ a, v = .ref a ∧ io[k]? = some a := by
  cases h with
  | ref h => exact ⟨_, rfl, h⟩
end

/-- the frozen part, the heap, where the cells stand -/
structure Wd where
  F : Hp
  H : Hp
  io : List Addr

def RF (K : PySem.W.Frag) (W : Wd) : List (Str × V) → List (Str × D) → Prop := Paired fun (p : Str × V) (q : Str × D) => p.1 = q.1 ∧ RV K W.F W.io p.2 q.2
def RT (K : PySem.W.Frag) (W : Wd) : List (List Key × V) → List (List Key × D) → Prop := Paired fun (p : List Key × V) (q : List Key × D) => p.1 = q.1 ∧ RV K W.F W.io p.2 q.2
def CR (K : PySem.W.Frag) (W : Wd) (a : Addr) : Cell → Prop
  | .lst ds => ∃ vs, W.H a = some (.lst vs) ∧ RVs K W.F W.io vs ds
  | .dct kds => ∃ kvs, W.H a = some (.dK kvs) ∧ RVk K W.F W.io kvs kds
  | .obj C fs => ∃ dx fvs, W.H a = some (.ins C dx fvs) ∧ RF K W fvs fs
  | .dT kds => ∃ kvs, W.H a = some (.dT kvs) ∧ RT K W kvs kds

def Own (r : List Slot) (s : L2.St) (b : Addr) : Prop := ∃ (i : Nat) (c : Cell), r[i]? = some (Slot.own c) ∧ s[i]? = some (some (.ref b))
def Mine (W : Wd) (r : List Slot) (s : L2.St) (b : Addr) : Prop := (∃ o, W.F b = some o) ∨ b ∈ W.io ∨ Own r s b

structure Rel (K : PySem.W.Frag) (W : Wd) (S : Ms) (s : L2.St) : Prop where
  sub : ∀ a o, W.F a = some o → W.H a = some o
  nd : W.io.Nodup
  nf : ∀ a ∈ W.io, W.F a = none
  len : W.io.length = S.m.length
  cells : ∀ (k : Nat) c a, S.m[k]? = some c → W.io[k]? = some a → CR K W a c
  sl : s.length = S.r.length
  slots : ∀ (i : Nat) d, S.r[i]? = some (Slot.val d) → ∃ v, s[i]? = some (some v) ∧ RV K W.F W.io v d
  owns : ∀ (i : Nat) c, S.r[i]? = some (Slot.own c) → ∃ a, s[i]? = some (some (.ref a)) ∧ W.F a = none ∧ a ∉ W.io ∧ CR K W a c
  odis : ∀ (i j : Nat) c c' a, S.r[i]? = some (Slot.own c) → S.r[j]? = some (Slot.own c') → s[i]? = some (some (.ref a)) → s[j]? = some (some (.ref a)) → i = j

structure Fr (W : Wd) (r : List Slot) (s : L2.St) (W' : Wd) (r' : List Slot) (s' : L2.St) : Prop where
  fx : ∀ a o, W.F a = some o → W'.F a = some o
  ix : W.io <+: W'.io
  ot : ∀ b o, W.H b = some o → ¬ Mine W r s b → W'.H b = some o ∧ ¬ Mine W' r' s' b
  hp : ∀ b, W'.H b = none → W.H b = none

section
variable {K : PySem.W.Frag} {W W1 W2 : Wd} {S S1 : Ms} {r r1 r2 : List Slot} {s s1 s2 : L2.St}
theorem Fr.refl : Fr W r s W r s := ⟨fun _ _ h => h, List.prefix_refl _, fun _ _ h n => ⟨h, n⟩, fun _ h => h⟩
theorem Fr.trans (a : Fr W r s W1 r1 s1) (b : Fr W1 r1 s1 W2 r2 s2) : Fr W r s W2 r2 s2 :=
  ⟨fun c o h => b.fx c o (a.fx c o h), a.ix.trans b.ix, fun c o h n => let ⟨h1, n1⟩ := a.ot c o h n; b.ot c o h1 n1, fun c h => a.hp c (b.hp c h)⟩
theorem RV.up {v : V} {d : D} (h : RV K W.F W.io v d) (f : Fr W r s W1 r1 s1) : RV K W1.F W1.io v d := h.mono f.fx f.ix
theorem RVs.up {v : List V} {d : List D} (h : RVs K W.F W.io v d) (f : Fr W r s W1 r1 s1) : RVs K W1.F W1.io v d := h.mono f.fx f.ix
theorem RVk.up {v : List (Key × V)} {d : List (Key × D)} (h : RVk K W.F W.io v d) (f : Fr W r s W1 r1 s1) : RVk K W1.F W1.io v d := h.mono f.fx f.ix

def Wd.al (W : Wd) (p : Addr) (o : HO) : Wd := ⟨upd W.F p o, upd W.H p o, W.io⟩
/-- the heap alone is written, at p -/
def Wd.wr (W : Wd) (p : Addr) (o : HO) : Wd := ⟨W.F, upd W.H p o, W.io⟩
def Wd.fz (W : Wd) (p : Addr) (o : HO) : Wd := ⟨upd W.F p o, W.H, W.io⟩
def Wd.cl (W : Wd) (p : Addr) : Wd := ⟨W.F, W.H, W.io ++ [p]⟩

theorem RF.mono {W W' : Wd} (hF : ∀ a o, W.F a = some o → W'.F a = some o) (hi : W.io <+: W'.io) : ∀ {a b}, RF K W a b → RF K W' a b
  | _, _, .nil => .nil
  | _, _, .cons h t => .cons ⟨h.1, h.2.mono hF hi⟩ (RF.mono hF hi t)
theorem RT.mono {W W' : Wd} (hF : ∀ a o, W.F a = some o → W'.F a = some o) (hi : W.io <+: W'.io) : ∀ {a b}, RT K W a b → RT K W' a b
  | _, _, .nil => .nil
  | _, _, .cons h t => .cons ⟨h.1, h.2.mono hF hi⟩ (RT.mono hF hi t)
theorem CR.mono {W W' : Wd} {a : Addr} {c : Cell} (hF : ∀ a o, W.F a = some o → W'.F a = some o) (hi : W.io <+: W'.io) (hH : ∀ o, W.H a = some o → W'.H a = some o) (h : CR K W a c) : CR K W' a c := by
  cases c with
  | lst ds => obtain ⟨vs, h1, h2⟩ := h; exact ⟨vs, hH _ h1, h2.mono hF hi⟩
  | dct ds => obtain ⟨vs, h1, h2⟩ := h; exact ⟨vs, hH _ h1, h2.mono hF hi⟩
  | obj C fs => obtain ⟨dx, fv, h1, h2⟩ := h; exact ⟨dx, fv, hH _ h1, h2.mono hF hi⟩
  | dT ds => obtain ⟨vs, h1, h2⟩ := h; exact ⟨vs, hH _ h1, h2.mono hF hi⟩
theorem CR.there {a : Addr} {c : Cell} (h : CR K W a c) : ∃ o, W.H a = some o := by
  cases c with
  | lst ds => obtain ⟨vs, h1, h2⟩ := h; exact ⟨_, h1⟩
  | dct ds => obtain ⟨vs, h1, h2⟩ := h; exact ⟨_, h1⟩
  | obj C fs => obtain ⟨dx, fv, h1, h2⟩ := h; exact ⟨_, h1⟩
  | dT ds => obtain ⟨vs, h1, h2⟩ := h; exact ⟨_, h1⟩
theorem Rel.ioThere (R : Rel K W S s) {a : Addr} (h : a ∈ W.io) : ∃ o, W.H a = some o := by
  obtain ⟨k, hk, e⟩ := List.getElem_of_mem h
  have h1 : W.io[k]? = some a := by rw [List.getElem?_eq_getElem hk, e]
  have h2 : k < S.m.length := by rw [← R.len]; exact hk
  exact (R.cells k _ a (List.getElem?_eq_getElem h2) h1).there
theorem Rel.freshIo (R : Rel K W S s) {p : Addr} (h : W.H p = none) : p ∉ W.io := fun q => by
  obtain ⟨o, e⟩ := R.ioThere q
  rw [h] at e; cases e
theorem Rel.freshF (R : Rel K W S s) {p : Addr} (h : W.H p = none) : W.F p = none := by
  cases e : W.F p with
  | none => rfl
  | some o => have := R.sub p o e; rw [h] at this; cases this
theorem Rel.freshOwn (R : Rel K W S s) {p : Addr} (h : W.H p = none) : ¬ Own S.r s p := fun ⟨i, c, e1, e2⟩ => by
  obtain ⟨a, h1, _, _, h2⟩ := R.owns i c e1
  rw [e2] at h1; cases h1
  obtain ⟨o, e⟩ := h2.there
  rw [h] at e; cases e

theorem upd_none {H : Hp} {p : Addr} {o : HO} {b : Addr} (h : upd H p o b = none) : H b = none := by
  unfold upd at h
  split at h
  · cases h
  · exact h
theorem upd_keep {H : Hp} {p : Addr} {o : HO} (hp : H p = none) : ∀ a u, H a = some u → upd H p o a = some u := fun a u h => by
  rw [upd_ne (ne_of_none h hp)]; exact h
/-- a new object, frozen at once -/
theorem Rel.al (R : Rel K W S s) {p : Addr} {o : HO} (hp : W.H p = none) : Rel K (W.al p o) S s ∧ Fr W S.r s (W.al p o) S.r s := by
  have fF := R.freshF hp
  have hF : ∀ a u, W.F a = some u → (W.al p o).F a = some u := upd_keep fF
  have hH : ∀ a u, W.H a = some u → (W.al p o).H a = some u := upd_keep hp
  have hi : W.io <+: (W.al p o).io := List.prefix_refl _
  refine ⟨⟨fun a u h => ?_, R.nd, fun a h => ?_, R.len, fun k c a h1 h2 => (R.cells k c a h1 h2).mono hF hi (hH a), R.sl, fun i d h => ?_, fun i c h => ?_, R.odis⟩, ⟨hF, hi, fun b u h n => ⟨hH b u h, fun m => n ?_⟩, fun _ h => upd_none h⟩⟩
  · show upd W.H p o a = some u
    by_cases e : a = p
    · subst e
      have h' : upd W.F a o a = some u := h
      rw [upd_same] at h' ⊢; exact h'
    · have h' : upd W.F p o a = some u := h
      rw [upd_ne e] at h' ⊢; exact R.sub a u h'
  · show upd W.F p o a = none
    have e : a ≠ p := fun e => R.freshIo hp (e ▸ h)
    rw [upd_ne e]; exact R.nf a h
  · obtain ⟨v, e, q⟩ := R.slots i d h
    exact ⟨v, e, q.mono hF hi⟩
  · obtain ⟨a, e, n1, n2, q⟩ := R.owns i c h
    refine ⟨a, e, ?_, n2, q.mono hF hi (hH a)⟩
    have e : a ≠ p := fun e => by obtain ⟨u, z⟩ := q.there; rw [e, hp] at z; cases z
    show upd W.F p o a = none
    rw [upd_ne e]; exact n1
  · rcases m with ⟨u', e⟩ | e | e
    · have e' : upd W.F p o b = some u' := e
      have nb : b ≠ p := ne_of_none h hp
      rw [upd_ne nb] at e'
      exact .inl ⟨u', e'⟩
    · exact .inr (.inl e)
    · exact .inr (.inr e)
/-- a new object that nobody holds yet -/
structure New (K : PySem.W.Frag) (W : Wd) (S : Ms) (s : L2.St) (p : Addr) (c : Cell) : Prop where
  nf : W.F p = none
  ni : p ∉ W.io
  no : ¬ Own S.r s p
  cr : CR K W p c
theorem Rel.wrNew (R : Rel K W S s) {p : Addr} {o : HO} (hp : W.H p = none) : Rel K (W.wr p o) S s ∧ Fr W S.r s (W.wr p o) S.r s := by
  have hF : ∀ a u, W.F a = some u → (W.wr p o).F a = some u := fun _ _ h => h
  have hH : ∀ a u, W.H a = some u → (W.wr p o).H a = some u := upd_keep hp
  have hi : W.io <+: (W.wr p o).io := List.prefix_refl _
  refine ⟨⟨fun a u h => hH a u (R.sub a u h), R.nd, R.nf, R.len, fun k c a h1 h2 => (R.cells k c a h1 h2).mono hF hi (hH a), R.sl, fun i d h => R.slots i d h, fun i c h => ?_, R.odis⟩, ⟨hF, hi, fun b u h n => ⟨hH b u h, n⟩, fun _ h => upd_none h⟩⟩
  obtain ⟨a, e, n1, n2, q⟩ := R.owns i c h
  exact ⟨a, e, n1, n2, q.mono hF hi (hH a)⟩
theorem Rel.newLst (R : Rel K W S s) {p : Addr} {vs : List V} {ds : List D} (hp : W.H p = none) (h : RVs K W.F W.io vs ds) :
    Rel K (W.wr p (.lst vs)) S s ∧ Fr W S.r s (W.wr p (.lst vs)) S.r s ∧ New K (W.wr p (.lst vs)) S s p (.lst ds) := by
  obtain ⟨R1, f1⟩ := R.wrNew (o := .lst vs) hp
  exact ⟨R1, f1, R.freshF hp, R.freshIo hp, R.freshOwn hp, vs, upd_same, h⟩
/-- it is frozen -/
theorem Rel.freeze {W0 : Wd} {r0 : List Slot} {s0 : L2.St} (R : Rel K W S s) (f0 : Fr W0 r0 s0 W S.r s) {p : Addr} {c : Cell} (hp0 : W0.H p = none) (n : New K W S s p c) {o : HO} (ho : W.H p = some o) :
    Rel K (W.fz p o) S s ∧ Fr W0 r0 s0 (W.fz p o) S.r s ∧ (∀ a u, W.F a = some u → (W.fz p o).F a = some u) := by
  have hF : ∀ a u, W.F a = some u → (W.fz p o).F a = some u := upd_keep n.nf
  have hi : W.io <+: (W.fz p o).io := List.prefix_refl _
  refine ⟨⟨fun a u h => ?_, R.nd, fun a h => ?_, R.len, fun k c a e1 e2 => (R.cells k c a e1 e2).mono hF hi (fun _ h => h), R.sl, fun i d h => ?_, fun i c h => ?_, R.odis⟩, ⟨fun a u h => hF a u (f0.fx a u h), f0.ix, fun b u h nm => ?_, f0.hp⟩, hF⟩
  · show W.H a = some u
    have h' : upd W.F p o a = some u := h
    by_cases e : a = p
    · subst e; rw [upd_same] at h'; cases h'; exact ho
    · rw [upd_ne e] at h'; exact R.sub a u h'
  · show upd W.F p _ a = none
    have e : a ≠ p := fun e => n.ni (by rw [← e]; exact h)
    rw [upd_ne e]; exact R.nf a h
  · obtain ⟨v, e, q⟩ := R.slots i d h
    exact ⟨v, e, q.mono hF hi⟩
  · obtain ⟨a, e, n1, n2, q⟩ := R.owns i c h
    refine ⟨a, e, ?_, n2, q.mono hF hi (fun _ h => h)⟩
    show upd W.F p _ a = none
    rw [upd_ne (fun z => n.no ⟨i, c, h, by rw [← z]; exact e⟩)]; exact n1
  · obtain ⟨h1, n1⟩ := f0.ot b u h nm
    refine ⟨h1, fun m => n1 ?_⟩
    rcases m with ⟨u', e⟩ | e | e
    · have e' : upd W.F p o b = some u' := e
      rw [upd_ne (ne_of_none h hp0)] at e'
      exact .inl ⟨u', e'⟩
    · exact .inr (.inl e)
    · exact .inr (.inr e)
theorem Rel.freezeLst {W0 : Wd} {r0 : List Slot} {s0 : L2.St} (R : Rel K W S s) (f0 : Fr W0 r0 s0 W S.r s) {p : Addr} {ds : List D} (hp0 : W0.H p = none) (n : New K W S s p (.lst ds)) :
    ∃ W', W'.H = W.H ∧ Rel K W' S s ∧ Fr W0 r0 s0 W' S.r s ∧ RV K W'.F W'.io (.ref p) (.lst ds) := by
  obtain ⟨vs, h1, h2⟩ := n.cr
  obtain ⟨R1, f1, hF⟩ := R.freeze f0 hp0 n h1
  exact ⟨W.fz p (.lst vs), rfl, R1, f1, .lst upd_same (h2.mono hF (List.prefix_refl _))⟩
theorem Rel.freezeDct {W0 : Wd} {r0 : List Slot} {s0 : L2.St} (R : Rel K W S s) (f0 : Fr W0 r0 s0 W S.r s) {p : Addr} {ds : List (Key × D)} (hp0 : W0.H p = none) (n : New K W S s p (.dct ds)) :
    ∃ W', W'.H = W.H ∧ Rel K W' S s ∧ Fr W0 r0 s0 W' S.r s ∧ RV K W'.F W'.io (.ref p) (.dct ds) := by
  obtain ⟨vs, h1, h2⟩ := n.cr
  obtain ⟨R1, f1, hF⟩ := R.freeze f0 hp0 n h1
  exact ⟨W.fz p (.dK vs), rfl, R1, f1, .dct upd_same (h2.mono hF (List.prefix_refl _))⟩

/-! ### slots -/
theorem own_set {i : Nat} {x : Slot} {v : Option V} {b : Addr} (h : Own (r.set i x) (s.set i v) b) (hl : s.length = r.length) : Own r s b ∨ (∃ c, x = .own c ∧ v = some (.ref b)) := by
  obtain ⟨j, c, e1, e2⟩ := h
  by_cases hj : i = j
  · subst hj
    by_cases hi : i < r.length
    · rw [List.getElem?_set_self hi] at e1
      rw [List.getElem?_set_self (by omega)] at e2
      cases e1; cases e2
      exact .inr ⟨c, rfl, rfl⟩
    · rw [List.getElem?_eq_none (by simpa using hi)] at e1; cases e1
  · rw [List.getElem?_set_ne hj] at e1 e2
    exact .inl ⟨j, c, e1, e2⟩
theorem Rel.setVal (R : Rel K W S s) {i : Nat} {v : V} {d : D} (h : RV K W.F W.io v d) : Rel K W { S with r := S.r.set i (Slot.val d) } (s.set i (some v)) ∧ Fr W S.r s W (S.r.set i (Slot.val d)) (s.set i (some v)) := by
  refine ⟨⟨R.sub, R.nd, R.nf, R.len, R.cells, by simp [R.sl], fun j e hj => ?_, fun j c hj => ?_, fun j k c c' a e1 e2 e3 e4 => ?_⟩, ⟨fun _ _ h => h, List.prefix_refl _, fun b u hb n => ⟨hb, fun m => n ?_⟩, fun _ h => h⟩⟩
  · by_cases e1 : i = j
    · subst e1
      by_cases hi : i < S.r.length
      · rw [List.getElem?_set_self hi] at hj; cases hj
        exact ⟨v, by rw [List.getElem?_set_self (by rw [R.sl]; exact hi)], h⟩
      · rw [List.getElem?_eq_none (by simpa using hi)] at hj; cases hj
    · rw [List.getElem?_set_ne e1] at hj ⊢
      exact R.slots j e hj
  · by_cases e1 : i = j
    · subst e1
      by_cases hi : i < S.r.length
      · rw [List.getElem?_set_self hi] at hj; cases hj
      · rw [List.getElem?_eq_none (by simpa using hi)] at hj; cases hj
    · rw [List.getElem?_set_ne e1] at hj ⊢
      exact R.owns j c hj
  · have q : ∀ j c, (S.r.set i (Slot.val d))[j]? = some (Slot.own c) → i ≠ j := fun j c e z => by
      subst z
      by_cases hi : i < S.r.length
      · rw [List.getElem?_set_self hi] at e; cases e
      · rw [List.getElem?_eq_none (by simpa using hi)] at e; cases e
    have q1 := q j c e1
    have q2 := q k c' e2
    rw [List.getElem?_set_ne q1] at e1 e3
    rw [List.getElem?_set_ne q2] at e2 e4
    exact R.odis j k c c' a e1 e2 e3 e4
  · rcases m with m | m | m
    · exact .inl m
    · exact .inr (.inl m)
    · rcases own_set m R.sl with m | ⟨c, e, _⟩
      · exact .inr (.inr m)
      · cases e
/-- a slot takes a new object for its own -/
theorem Rel.setOwn {W0 : Wd} {r0 : List Slot} {s0 : L2.St} (R : Rel K W S s) (f0 : Fr W0 r0 s0 W S.r s) {i : Nat} {p : Addr} {c : Cell} (hp0 : W0.H p = none) (n : New K W S s p c) :
    Rel K W { S with r := S.r.set i (Slot.own c) } (s.set i (some (.ref p))) ∧ Fr W0 r0 s0 W (S.r.set i (Slot.own c)) (s.set i (some (.ref p))) := by
  have inv : ∀ j c', (S.r.set i (Slot.own c))[j]? = some (Slot.own c') → (j = i ∧ c' = c ∧ i < S.r.length) ∨ (i ≠ j ∧ S.r[j]? = some (Slot.own c')) := fun j c' e => by
    by_cases e1 : i = j
    · subst e1
      by_cases hi : i < S.r.length
      · rw [List.getElem?_set_self hi] at e; cases e; exact .inl ⟨rfl, rfl, hi⟩
      · rw [List.getElem?_eq_none (by simpa using hi)] at e; cases e
    · rw [List.getElem?_set_ne e1] at e; exact .inr ⟨e1, e⟩
  refine ⟨⟨R.sub, R.nd, R.nf, R.len, R.cells, by simp [R.sl], fun j e hj => ?_, fun j c' hj => ?_, fun j k c1 c2 a e1 e2 e3 e4 => ?_⟩, ⟨f0.fx, f0.ix, fun b u hb nm => ?_, f0.hp⟩⟩
  · by_cases e1 : i = j
    · subst e1
      by_cases hi : i < S.r.length
      · rw [List.getElem?_set_self hi] at hj; cases hj
      · rw [List.getElem?_eq_none (by simpa using hi)] at hj; cases hj
    · rw [List.getElem?_set_ne e1] at hj ⊢
      exact R.slots j e hj
  · rcases inv j c' hj with ⟨rfl, rfl, hi⟩ | ⟨ne, e⟩
    · exact ⟨p, by rw [List.getElem?_set_self (by rw [R.sl]; exact hi)], n.nf, n.ni, n.cr⟩
    · rw [List.getElem?_set_ne ne]; exact R.owns j c' e
  · rcases inv j c1 e1 with ⟨rfl, rfl, hi⟩ | ⟨ne, e⟩
    · rcases inv k c2 e2 with ⟨rfl, rfl, _⟩ | ⟨ne', e'⟩
      · rfl
      · rw [List.getElem?_set_self (by rw [R.sl]; exact hi)] at e3; cases e3
        rw [List.getElem?_set_ne ne'] at e4
        exact absurd ⟨k, c2, e', e4⟩ n.no
    · rcases inv k c2 e2 with ⟨rfl, rfl, hi⟩ | ⟨ne', e'⟩
      · rw [List.getElem?_set_self (by rw [R.sl]; exact hi)] at e4; cases e4
        rw [List.getElem?_set_ne ne] at e3
        exact absurd ⟨j, c1, e, e3⟩ n.no
      · rw [List.getElem?_set_ne ne] at e3
        rw [List.getElem?_set_ne ne'] at e4
        exact R.odis j k c1 c2 a e e' e3 e4
  · obtain ⟨h1, n1⟩ := f0.ot b u hb nm
    refine ⟨h1, fun m => n1 ?_⟩
    rcases m with m | m | m
    · exact .inl m
    · exact .inr (.inl m)
    · rcases own_set m R.sl with m | ⟨c', _, e⟩
      · exact .inr (.inr m)
      · cases e
        rw [hp0] at hb; cases hb
/-- a new object becomes a cell -/
theorem Rel.addCell {W0 : Wd} {r0 : List Slot} {s0 : L2.St} (R : Rel K W S s) (f0 : Fr W0 r0 s0 W S.r s) {p : Addr} {c : Cell} (hp0 : W0.H p = none) (n : New K W S s p c) :
    Rel K (W.cl p) { S with m := S.m ++ [c] } s ∧ Fr W0 r0 s0 (W.cl p) S.r s ∧ RV K (W.cl p).F (W.cl p).io (.ref p) (.ref S.m.length) := by
  have hi : W.io <+: (W.cl p).io := List.prefix_append _ _
  have hF : ∀ a u, W.F a = some u → (W.cl p).F a = some u := fun _ _ h => h
  refine ⟨⟨R.sub, ?_, fun a h => ?_, by simp [Wd.cl, R.len], fun k c' a e1 e2 => ?_, R.sl, fun i d h => ?_, fun i c' h => ?_, R.odis⟩, ⟨f0.fx, f0.ix.trans hi, fun b u hb nm => ?_, f0.hp⟩, .ref ?_⟩
  · show (W.io ++ [p]).Nodup
    rw [List.nodup_append]
    exact ⟨R.nd, by simp, fun a ha b hb e => n.ni (by simp at hb; rw [← hb, ← e]; exact ha)⟩
  · rcases List.mem_append.mp h with h | h
    · exact R.nf a h
    · simp at h; subst h; exact n.nf
  · have e2' : (W.io ++ [p])[k]? = some a := e2
    by_cases hk : k < S.m.length
    · rw [List.getElem?_append_left hk] at e1
      rw [List.getElem?_append_left (by rw [R.len]; exact hk)] at e2'
      exact (R.cells k c' a e1 e2').mono hF hi (fun _ h => h)
    · rw [List.getElem?_append_right (by omega)] at e1
      rw [List.getElem?_append_right (by rw [R.len]; omega)] at e2'
      have hk0 : k - S.m.length = 0 := by
        have := (List.getElem?_eq_some_iff.mp e1).1
        simp at this; omega
      rw [hk0] at e1
      rw [R.len, hk0] at e2'
      simp at e1 e2'
      subst e1; subst e2'
      exact n.cr.mono hF hi (fun _ h => h)
  · obtain ⟨v, e, q⟩ := R.slots i d h
    exact ⟨v, e, q.mono hF hi⟩
  · obtain ⟨a, e, n1, n2, q⟩ := R.owns i c' h
    refine ⟨a, e, n1, fun z => ?_, q.mono hF hi (fun _ h => h)⟩
    rcases List.mem_append.mp z with z | z
    · exact n2 z
    · simp at z; subst z; exact n.no ⟨i, c', h, e⟩
  · obtain ⟨h1, n1⟩ := f0.ot b u hb nm
    refine ⟨h1, fun m => n1 ?_⟩
    rcases m with m | m | m
    · exact .inl m
    · rcases List.mem_append.mp m with m | m
      · exact .inr (.inl m)
      · simp at m; subst m; rw [hp0] at hb; cases hb
    · exact .inr (.inr m)
  · show (W.io ++ [p])[S.m.length]? = some p
    rw [List.getElem?_append_right (by rw [R.len]; exact Nat.le_refl _), R.len]
    simp
/-- an own slot is read as a value: frozen -/
theorem Rel.slotFreeze (R : Rel K W S s) {i : Nat} {c : Cell} (hi : S.r[i]? = some (Slot.own c)) {a : Addr} (ha : s[i]? = some (some (.ref a))) {o : HO} (ho : W.H a = some o) {d : D}
    (hd : RV K (W.fz a o).F W.io (.ref a) d) : Rel K (W.fz a o) { S with r := S.r.set i (Slot.val d) } s ∧ Fr W S.r s (W.fz a o) (S.r.set i (Slot.val d)) s := by
  obtain ⟨a', e', n1, n2, q⟩ := R.owns i c hi
  rw [ha] at e'; cases e'
  have hil := (List.getElem?_eq_some_iff.mp hi).1
  have hF : ∀ b u, W.F b = some u → (W.fz a o).F b = some u := upd_keep n1
  have hio : W.io <+: (W.fz a o).io := List.prefix_refl _
  have inv : ∀ j c', (S.r.set i (Slot.val d))[j]? = some (Slot.own c') → i ≠ j ∧ S.r[j]? = some (Slot.own c') := fun j c' e => by
    by_cases e1 : i = j
    · subst e1
      rw [List.getElem?_set_self hil] at e; cases e
    · rw [List.getElem?_set_ne e1] at e; exact ⟨e1, e⟩
  refine ⟨⟨fun b u h => ?_, R.nd, fun b h => ?_, R.len, fun k c' b e1 e2 => (R.cells k c' b e1 e2).mono hF hio (fun _ h => h), by simp [R.sl], fun j e hj => ?_, fun j c' hj => ?_, fun j k c1 c2 b e1 e2 e3 e4 => ?_⟩, ⟨hF, hio, fun b u hb nm => ⟨hb, fun m => nm ?_⟩, fun _ h => h⟩⟩
  · show W.H b = some u
    have h' : upd W.F a o b = some u := h
    by_cases e : b = a
    · subst e; rw [upd_same] at h'; cases h'; exact ho
    · rw [upd_ne e] at h'; exact R.sub b u h'
  · show upd W.F a o b = none
    have e : b ≠ a := fun e => n2 (by rw [← e]; exact h)
    rw [upd_ne e]; exact R.nf b h
  · by_cases e1 : i = j
    · subst e1
      rw [List.getElem?_set_self hil] at hj; cases hj
      exact ⟨_, ha, hd⟩
    · rw [List.getElem?_set_ne e1] at hj
      obtain ⟨v, e, q⟩ := R.slots j e hj
      exact ⟨v, e, q.mono hF hio⟩
  · obtain ⟨ne, e⟩ := inv j c' hj
    obtain ⟨b, e2, m1, m2, q⟩ := R.owns j c' e
    refine ⟨b, e2, ?_, m2, q.mono hF hio (fun _ h => h)⟩
    show upd W.F a o b = none
    have nb : b ≠ a := fun z => by subst z; exact ne (R.odis i j _ _ b hi e ha e2)
    rw [upd_ne nb]; exact m1
  · obtain ⟨_, e1'⟩ := inv j c1 e1
    obtain ⟨_, e2'⟩ := inv k c2 e2
    exact R.odis j k c1 c2 b e1' e2' e3 e4
  · rcases m with ⟨u', e⟩ | m | ⟨j, c', e1, e2⟩
    · have e' : upd W.F a o b = some u' := e
      by_cases e : b = a
      · subst e; exact .inr (.inr ⟨i, c, hi, ha⟩)
      · rw [upd_ne e] at e'; exact .inl ⟨u', e'⟩
    · exact .inr (.inl m)
    · exact .inr (.inr ⟨j, c', (inv j c' e1).2, e2⟩)
theorem Rel.slotLst (R : Rel K W S s) {i : Nat} {ds : List D} (hi : S.r[i]? = some (Slot.own (.lst ds))) : ∃ (a : Addr) (W' : Wd), s[i]? = some (some (.ref a)) ∧ W'.H = W.H ∧ Rel K W' { S with r := S.r.set i (Slot.val (.lst ds)) } s ∧
    Fr W S.r s W' (S.r.set i (Slot.val (.lst ds))) s ∧ RV K W'.F W'.io (.ref a) (.lst ds) := by
  obtain ⟨a, e, n1, n2, vs, h1, h2⟩ := R.owns i _ hi
  have hd : RV K (W.fz a (.lst vs)).F W.io (.ref a) (.lst ds) := .lst upd_same (h2.mono (upd_keep n1) (List.prefix_refl _))
  obtain ⟨R1, f1⟩ := R.slotFreeze hi e h1 hd
  exact ⟨a, W.fz a (.lst vs), e, rfl, R1, f1, hd⟩
theorem Rel.slotDct (R : Rel K W S s) {i : Nat} {ds : List (Key × D)} (hi : S.r[i]? = some (Slot.own (.dct ds))) : ∃ (a : Addr) (W' : Wd), s[i]? = some (some (.ref a)) ∧ W'.H = W.H ∧ Rel K W' { S with r := S.r.set i (Slot.val (.dct ds)) } s ∧
    Fr W S.r s W' (S.r.set i (Slot.val (.dct ds))) s ∧ RV K W'.F W'.io (.ref a) (.dct ds) := by
  obtain ⟨a, e, n1, n2, vs, h1, h2⟩ := R.owns i _ hi
  have hd : RV K (W.fz a (.dK vs)).F W.io (.ref a) (.dct ds) := .dct upd_same (h2.mono (upd_keep n1) (List.prefix_refl _))
  obtain ⟨R1, f1⟩ := R.slotFreeze hi e h1 hd
  exact ⟨a, W.fz a (.dK vs), e, rfl, R1, f1, hd⟩
/-- an own object is changed -/
theorem Rel.wrOwn (R : Rel K W S s) {i : Nat} {c c' : Cell} (hi : S.r[i]? = some (Slot.own c)) {a : Addr} (ha : s[i]? = some (some (.ref a))) {o : HO} (hc : CR K (W.wr a o) a c') :
    Rel K (W.wr a o) { S with r := S.r.set i (Slot.own c') } s ∧ Fr W S.r s (W.wr a o) (S.r.set i (Slot.own c')) s := by
  obtain ⟨a', e', n1, n2, q⟩ := R.owns i c hi
  rw [ha] at e'; cases e'
  have hil := (List.getElem?_eq_some_iff.mp hi).1
  have hF : ∀ b u, W.F b = some u → (W.wr a o).F b = some u := fun _ _ h => h
  have hio : W.io <+: (W.wr a o).io := List.prefix_refl _
  have hH : ∀ b, b ≠ a → ∀ u, W.H b = some u → (W.wr a o).H b = some u := fun b nb u h => by
    show upd W.H a o b = some u
    rw [upd_ne nb]; exact h
  have inv : ∀ j c1, (S.r.set i (Slot.own c'))[j]? = some (Slot.own c1) → (j = i ∧ c1 = c') ∨ (i ≠ j ∧ S.r[j]? = some (Slot.own c1)) := fun j c1 e => by
    by_cases e1 : i = j
    · subst e1
      rw [List.getElem?_set_self hil] at e; cases e; exact .inl ⟨rfl, rfl⟩
    · rw [List.getElem?_set_ne e1] at e; exact .inr ⟨e1, e⟩
  have old : ∀ j c1, (S.r.set i (Slot.own c'))[j]? = some (Slot.own c1) → ∃ c2, S.r[j]? = some (Slot.own c2) := fun j c1 e => by
    rcases inv j c1 e with ⟨rfl, _⟩ | ⟨_, e⟩
    · exact ⟨c, hi⟩
    · exact ⟨c1, e⟩
  refine ⟨⟨fun b u h => hH b (ne_of_none h n1) u (R.sub b u h), R.nd, R.nf, R.len, fun k c1 b e1 e2 => (R.cells k c1 b e1 e2).mono hF hio (hH b fun z => n2 (by rw [← z]; exact List.mem_of_getElem? e2)), by simp [R.sl], fun j e hj => ?_, fun j c1 hj => ?_, fun j k c1 c2 b e1 e2 e3 e4 => ?_⟩, ⟨hF, hio, fun b u hb nm => ?_, fun _ h => upd_none h⟩⟩
  · by_cases e1 : i = j
    · subst e1
      rw [List.getElem?_set_self hil] at hj; cases hj
    · rw [List.getElem?_set_ne e1] at hj
      exact R.slots j e hj
  · rcases inv j c1 hj with ⟨rfl, rfl⟩ | ⟨ne, e⟩
    · exact ⟨a, ha, n1, n2, hc⟩
    · obtain ⟨b, e2, m1, m2, q⟩ := R.owns j c1 e
      exact ⟨b, e2, m1, m2, q.mono hF hio (hH b fun z => by subst z; exact ne (R.odis i j _ _ b hi e ha e2))⟩
  · obtain ⟨d1, q1⟩ := old j c1 e1
    obtain ⟨d2, q2⟩ := old k c2 e2
    exact R.odis j k d1 d2 b q1 q2 e3 e4
  · refine ⟨hH b (fun z => nm (.inr (.inr ⟨i, c, hi, by rw [z]; exact ha⟩))) u hb, fun m => nm ?_⟩
    rcases m with m | m | ⟨j, c1, e1, e2⟩
    · exact .inl m
    · exact .inr (.inl m)
    · obtain ⟨d1, q1⟩ := old j c1 e1
      exact .inr (.inr ⟨j, d1, q1, e2⟩)
/-- a cell is changed -/
theorem Rel.wrCell (R : Rel K W S s) {k : Nat} {c' : Cell} {a : Addr} (ha : W.io[k]? = some a) {o : HO} (hc : CR K (W.wr a o) a c') :
    Rel K (W.wr a o) { S with m := S.m.set k c' } s ∧ Fr W S.r s (W.wr a o) S.r s := by
  have hmem : a ∈ W.io := List.mem_of_getElem? ha
  have n1 := R.nf a hmem
  have hF : ∀ b u, W.F b = some u → (W.wr a o).F b = some u := fun _ _ h => h
  have hio : W.io <+: (W.wr a o).io := List.prefix_refl _
  have hH : ∀ b, b ≠ a → ∀ u, W.H b = some u → (W.wr a o).H b = some u := fun b nb u h => by
    show upd W.H a o b = some u
    rw [upd_ne nb]; exact h
  refine ⟨⟨fun b u h => hH b (ne_of_none h n1) u (R.sub b u h), R.nd, R.nf, by simp [Wd.wr, R.len], fun j c1 b e1 e2 => ?_, R.sl, fun j e hj => R.slots j e hj, fun j c1 hj => ?_, R.odis⟩, ⟨hF, hio, fun b u hb nm => ⟨hH b (fun z => nm (.inr (.inl (by rw [z]; exact hmem)))) u hb, nm⟩, fun _ h => upd_none h⟩⟩
  · have e2' : W.io[j]? = some b := e2
    by_cases hj : k = j
    · subst hj
      rw [ha] at e2'; cases e2'
      have hk := (List.getElem?_eq_some_iff.mp ha).1
      rw [R.len] at hk
      rw [List.getElem?_set_self hk] at e1; cases e1
      exact hc
    · rw [List.getElem?_set_ne hj] at e1
      refine (R.cells j c1 b e1 e2').mono hF hio (hH b fun z => ?_)
      subst z
      obtain ⟨h1, q1⟩ := List.getElem?_eq_some_iff.mp e2'
      obtain ⟨h2, q2⟩ := List.getElem?_eq_some_iff.mp ha
      exact hj ((List.getElem_inj R.nd).mp (q2.trans q1.symm))
  · obtain ⟨b, e2, m1, m2, q⟩ := R.owns j c1 hj
    exact ⟨b, e2, m1, m2, q.mono hF hio (hH b fun z => m2 (by rw [z]; exact hmem))⟩
end
end M

/-! M1: judgements (an expression of the text and its function over states), names, constants, operators, comparisons, tests. -/
namespace M
open PySem L2

abbrev EF := Ms → Option (D × Ms)
abbrev BF := Ms → Option (Bool × Ms)
abbrev AF := Ms → Option (List D × Ms)
abbrev SF := Ms → Option (Fl × Ms)
abbrev GF := D → Ms → Option Ms
abbrev CF := Ms → Option (Cell × Ms)
abbrev OF := Ms → Option (Option Int × Ms)

def TEok (K : PySem.W.Frag) (t : TE) (f : EF) : Prop := ∀ S d S', f S = some (d, S') → ∀ W s (Q : VK), Rel K W S s → (∀ v W', Rel K W' S' s → Fr W S.r s W' S'.r s → RV K W'.F W'.io v d → Q v W'.H) → t s W.H Q
def TTok (K : PySem.W.Frag) (t : TT) (f : BF) : Prop := ∀ S d S', f S = some (d, S') → ∀ W s (Q : Bool → Hp → Prop), Rel K W S s → (∀ W', Rel K W' S' s → Fr W S.r s W' S'.r s → Q d W'.H) → t s W.H Q
def TAok (K : PySem.W.Frag) (t : TA) (f : AF) : Prop := ∀ S d S', f S = some (d, S') → ∀ W s (Q : List V → Hp → Prop), Rel K W S s → (∀ v W', Rel K W' S' s → Fr W S.r s W' S'.r s → RVs K W'.F W'.io v d → Q v W'.H) → t s W.H Q
def TOok (K : PySem.W.Frag) (t : TO) (f : OF) : Prop := ∀ S d S', f S = some (d, S') → ∀ W s (Q : Option Int → Hp → Prop), Rel K W S s → (∀ W', Rel K W' S' s → Fr W S.r s W' S'.r s → Q d W'.H) → t s W.H Q
/-- an expression that makes a new object -/
def TFok (K : PySem.W.Frag) (t : TE) (f : CF) : Prop := ∀ S c S', f S = some (c, S') → ∀ W s (Q : VK), Rel K W S s → (∀ a W', Rel K W' S' s → Fr W S.r s W' S'.r s → W.H a = none → New K W' S' s a c → Q (.ref a) W'.H) → t s W.H Q

def ME (X : Cx) (e : Expr) (f : EF) : Prop := ∃ t, PE X e t ∧ TEok X.K t f
def MT (X : Cx) (e : Expr) (f : BF) : Prop := ∃ t, PT X e t ∧ TTok X.K t f
def MW (X : Cx) (e : Expr) (f : BF) : Prop := ∃ t, PW X e t ∧ TTok X.K t f
def MA (X : Cx) (es : List Expr) (f : AF) : Prop := ∃ t, PA X es t ∧ TAok X.K t f
def MO (X : Cx) (e : Option Expr) (f : OF) : Prop := ∃ t, PO X e t ∧ TOok X.K t f
def MF (X : Cx) (e : Expr) (f : CF) : Prop := ∃ t, PE X e t ∧ TFok X.K t f

/-! ### what is seen without being taken -/
def vw (S : Ms) : D → D
  | .ref k => match S.m[k]? with
    | some (.lst ds) => .lst ds
    | some (.dct kds) => .dct kds
    | _ => .ref k
  | d => d
def RH (K : PySem.W.Frag) (W : Wd) (v : V) : D → Prop
  | .lst ds => ∃ a vs, v = .ref a ∧ W.H a = some (.lst vs) ∧ RVs K W.F W.io vs ds
  | .dct kds => ∃ a kvs, v = .ref a ∧ W.H a = some (.dK kvs) ∧ RVk K W.F W.io kvs kds
  | d => RV K W.F W.io v d
def sees (i : Nat) (S : Ms) : Option D := match S.r[i]? with
  | some (.val d) => some (vw S d)
  | some (.own (.lst ds)) => some (.lst ds)
  | some (.own (.dct kds)) => some (.dct kds)
  | _ => none
def held (i : Nat) (S : Ms) : Bool := match S.r[i]? with
  | some (.val _) => true
  | some (.own _) => true
  | _ => false

section
variable {K : PySem.W.Frag} {W : Wd} {S : Ms} {s : L2.St}
theorem Rel.rh (R : Rel K W S s) {v : V} {d : D} (h : RV K W.F W.io v d) : RH K W v d := by
  cases d with
  | lst ds => obtain ⟨a, vs, e, h1, h2⟩ := h.lst_inv; exact ⟨a, vs, e, R.sub _ _ h1, h2⟩
  | dct ds => obtain ⟨a, vs, e, h1, h2⟩ := h.dct_inv; exact ⟨a, vs, e, R.sub _ _ h1, h2⟩
  | _ => exact h
theorem Rel.vw (R : Rel K W S s) {v : V} {d : D} (h : RV K W.F W.io v d) : RH K W v (vw S d) := by
  cases d with
  | ref k =>
    obtain ⟨a, rfl, e⟩ := h.ref_inv
    show RH K W _ (match S.m[k]? with | some (.lst ds) => D.lst ds | some (.dct kds) => D.dct kds | _ => D.ref k)
    cases em : S.m[k]? with
    | none => exact h
    | some c =>
      have hc := R.cells k c a em e
      cases c with
      | lst ds => obtain ⟨vs, h1, h2⟩ := hc; exact ⟨a, vs, rfl, h1, h2⟩
      | dct ds => obtain ⟨vs, h1, h2⟩ := hc; exact ⟨a, vs, rfl, h1, h2⟩
      | obj C fs => exact h
      | dT ds => exact h
  | _ => exact R.rh h
theorem Rel.sees (R : Rel K W S s) {i : Nat} {d : D} (h : sees i S = some d) : ∃ v, s[i]? = some (some v) ∧ RH K W v d := by
  unfold M.sees at h
  cases e : S.r[i]? with
  | none => rw [e] at h; cases h
  | some x =>
    rw [e] at h
    cases x with
    | emp => cases h
    | val d' =>
      cases h
      obtain ⟨v, e1, q⟩ := R.slots i d' e
      exact ⟨v, e1, R.vw q⟩
    | own c =>
      obtain ⟨a, e1, _, _, q⟩ := R.owns i c e
      cases c with
      | lst ds => cases h; obtain ⟨vs, h1, h2⟩ := q; exact ⟨_, e1, a, vs, rfl, h1, h2⟩
      | dct ds => cases h; obtain ⟨vs, h1, h2⟩ := q; exact ⟨_, e1, a, vs, rfl, h1, h2⟩
      | obj C fs => cases h
      | dT ds => cases h
theorem Rel.held (R : Rel K W S s) {i : Nat} (h : held i S = true) : ∃ v, s[i]? = some (some v) := by
  unfold M.held at h
  cases e : S.r[i]? with
  | none => rw [e] at h; cases h
  | some x =>
    rw [e] at h
    cases x with
    | emp => cases h
    | val d' => obtain ⟨v, e1, q⟩ := R.slots i d' e; exact ⟨v, e1⟩
    | own c => obtain ⟨a, e1, _⟩ := R.owns i c e; exact ⟨_, e1⟩
end

/-! ### names and constants -/
def eVar (i : Nat) : EF := fun S => match S.r[i]? with
  | some (.val d) => some (d, S)
  | some (.own (.lst ds)) => some (.lst ds, { S with r := S.r.set i (.val (.lst ds)) })
  | some (.own (.dct ds)) => some (.dct ds, { S with r := S.r.set i (.val (.dct ds)) })
  | _ => none
def eC (d : D) : EF := fun S => some (d, S)
/-- seen only -/
def eSee (i : Nat) : EF := fun S => (sees i S).bind fun d => some (d, S)

section
variable {X : Cx} {pos : Pos}
theorem te_var {K : PySem.W.Frag} {i : Nat} : TEok K (tVar i) (eVar i) := by
  intro S d S' h W s Q R k
  unfold eVar at h
  cases e : S.r[i]? with
  | none => rw [e] at h; cases h
  | some x =>
    rw [e] at h
    cases x with
    | emp => cases h
    | val d' =>
      cases h
      obtain ⟨v, e1, q⟩ := R.slots i d e
      exact ⟨v, e1, k v W R .refl q⟩
    | own c =>
      cases c with
      | lst ds =>
        cases h
        obtain ⟨a, W', e1, e2, R', f, q⟩ := R.slotLst e
        refine ⟨_, e1, ?_⟩
        rw [← e2]
        exact k _ W' R' f q
      | dct ds =>
        cases h
        obtain ⟨a, W', e1, e2, R', f, q⟩ := R.slotDct e
        refine ⟨_, e1, ?_⟩
        rw [← e2]
        exact k _ W' R' f q
      | obj C fs => cases h
      | dT ds => cases h
theorem me_var (i : Nat) {x : Str} (hN : X.N[i]? = some x := by rfl) (hv : Vis X.env.scope x := by first | exact Or.inl rfl | exact Or.inr (Or.inl rfl) | exact Or.inr (Or.inr rfl)) (hd : (x == ("__debug__" : Str)) = false := by decide)
    (hcd : (x == ("__classdict__" : Str)) = false := by decide) : ME X (.Name x pos) (eVar i) := ⟨_, pe_var hN hv hd hcd, te_var⟩
theorem te_c {K : PySem.W.Frag} {v : V} {d : D} (h : ∀ F io, RV K F io v d) : TEok K (tC v) (eC d) := by
  intro S d' S' e W s Q R k
  cases e
  exact k v W R .refl (h _ _)
theorem me_int {i : Int} {j} : ME X (.Constant (.int i) j pos) (eC (.int i)) := ⟨_, pe_int, te_c fun _ _ => .int i⟩
theorem me_bl {b : Bool} {j} : ME X (.Constant (.bool b) j pos) (eC (.bl b)) := ⟨_, pe_bl, te_c fun _ _ => .bl b⟩
theorem me_non {j} : ME X (.Constant .none j pos) (eC .non) := ⟨_, pe_non, te_c fun _ _ => .non⟩
theorem me_str {x : Str} {j} : ME X (.Constant (.str x) j pos) (eC (.str x)) := ⟨_, pe_str, te_c fun _ _ => .str x⟩
/-- a module's constant -/
theorem me_glob {x : Str} {v : V} {u : Value} {d : D} (hg : Gl X x) (hm : X.mg x = some u) (r : RelV v u) (hd : ∀ F io, RV X.K F io v d) (hdb : (x == ("__debug__" : Str)) = false := by decide) : ME X (.Name x pos) (eC d) :=
  ⟨_, pe_glob hg hm r hdb, te_c hd⟩
end

/-! ### two-place operations -/
/-- f on values does g on data; nothing is frozen, the operands may be only seen -/
def OpM (X : Cx) (f : Value → Value → Sem Value) (g : D → D → Option D) : Prop := ∃ r : R2, OpR X f r ∧ ∀ x y d e z, g d e = some z → ∀ W S s (Q : VK), Rel X.K W S s → RH X.K W x d → RH X.K W y e →
  (∀ v W', Rel X.K W' S s → Fr W S.r s W' S.r s → RV X.K W'.F W'.io v z → Q v W'.H) → r x y W.H Q
def eOp (g : D → D → Option D) (a b : EF) : EF := fun S => (a S).bind fun p => (b p.2).bind fun q => (g (vw q.2 p.1) (vw q.2 q.1)).bind fun z => some (z, q.2)
/-- the left one a name that is only seen; the right one; both -/
def eOpL (g : D → D → Option D) (i : Nat) (b : EF) : EF := fun S => if held i S then (b S).bind fun q => (sees i q.2).bind fun d => (g d (vw q.2 q.1)).bind fun z => some (z, q.2) else none
def eOpR (g : D → D → Option D) (a : EF) (j : Nat) : EF := fun S => (a S).bind fun p => (sees j p.2).bind fun e => (g (vw p.2 p.1) e).bind fun z => some (z, p.2)
section
variable {X : Cx} {pos : Pos} {a b : Expr} {fa fb : EF} {g g' : D → D → Option D} {f : Value → Value → Sem Value}
theorem bind_some {α β : Type} {o : Option α} {k : α → Option β} {z : β} (h : o.bind k = some z) : ∃ x, o = some x ∧ k x = some z := by
  cases o with
  | none => cases h
  | some x => exact ⟨x, rfl, h⟩
theorem OpM.or (h : OpM X f g) (h' : OpM X f g') : OpM X f (fun d e => (g d e).or (g' d e)) := by
  obtain ⟨r, h1, h2⟩ := h
  obtain ⟨r', h1', h2'⟩ := h'
  refine ⟨_, h1.or h1', fun x y d e z hz W S s Q R rx ry k => ?_⟩
  have hz : (g d e).or (g' d e) = some z := hz
  cases q : g d e with
  | some z' =>
    rw [q] at hz
    cases hz
    exact .inl (h2 x y d e _ q W S s Q R rx ry k)
  | none =>
    rw [q] at hz
    exact .inr (h2' x y d e z hz W S s Q R rx ry k)
theorem te_op {K : PySem.W.Frag} {r : R2} {ta tb : TE} (h2 : ∀ x y d e z, g d e = some z → ∀ W S s (Q : VK), Rel K W S s → RH K W x d → RH K W y e → (∀ v W', Rel K W' S s → Fr W S.r s W' S.r s → RV K W'.F W'.io v z → Q v W'.H) → r x y W.H Q)
    (ha : TEok K ta fa) (hb : TEok K tb fb) : TEok K (tOp r ta tb) (eOp g fa fb) := by
  intro S d S' h W s Q R k
  obtain ⟨⟨d1, S1⟩, e1, h⟩ := bind_some h
  obtain ⟨⟨d2, S2⟩, e2, h⟩ := bind_some h
  obtain ⟨z, e3, h⟩ := bind_some h
  cases h
  refine ha S d1 S1 e1 W s _ R fun x W1 R1 f1 q1 => ?_
  refine hb S1 d2 S2 e2 W1 s _ R1 fun y W2 R2 f2 q2 => ?_
  exact h2 x y _ _ d e3 W2 S2 s Q R2 (R2.vw (q1.up f2)) (R2.vw q2) fun v W3 R3 f3 q3 => k v W3 R3 ((f1.trans f2).trans f3) q3
theorem te_opL {K : PySem.W.Frag} {r : R2} {tb : TE} {i : Nat} (h2 : ∀ x y d e z, g d e = some z → ∀ W S s (Q : VK), Rel K W S s → RH K W x d → RH K W y e → (∀ v W', Rel K W' S s → Fr W S.r s W' S.r s → RV K W'.F W'.io v z → Q v W'.H) → r x y W.H Q)
    (hb : TEok K tb fb) : TEok K (tOp r (tVar i) tb) (eOpL g i fb) := by
  intro S d S' h W s Q R k
  unfold eOpL at h
  split at h
  · rename_i hh
    obtain ⟨⟨d2, S2⟩, e2, h⟩ := bind_some h
    obtain ⟨d1, e1, h⟩ := bind_some h
    obtain ⟨z, e3, h⟩ := bind_some h
    cases h
    obtain ⟨x, ex⟩ := R.held hh
    refine ⟨x, ex, ?_⟩
    refine hb S d2 S2 e2 W s _ R fun y W2 R2 f2 q2 => ?_
    obtain ⟨x', ex', rx⟩ := R2.sees e1
    rw [ex] at ex'; cases ex'
    exact h2 x y _ _ d e3 W2 S2 s Q R2 rx (R2.vw q2) fun v W3 R3 f3 q3 => k v W3 R3 (f2.trans f3) q3
  · cases h
theorem te_opR {K : PySem.W.Frag} {r : R2} {ta : TE} {j : Nat} (h2 : ∀ x y d e z, g d e = some z → ∀ W S s (Q : VK), Rel K W S s → RH K W x d → RH K W y e → (∀ v W', Rel K W' S s → Fr W S.r s W' S.r s → RV K W'.F W'.io v z → Q v W'.H) → r x y W.H Q)
    (ha : TEok K ta fa) : TEok K (tOp r ta (tVar j)) (eOpR g fa j) := by
  intro S d S' h W s Q R k
  obtain ⟨⟨d1, S1⟩, e1, h⟩ := bind_some h
  obtain ⟨d2, e2, h⟩ := bind_some h
  obtain ⟨z, e3, h⟩ := bind_some h
  cases h
  refine ha S d1 S1 e1 W s _ R fun x W1 R1 f1 q1 => ?_
  obtain ⟨y, ey, ry⟩ := R1.sees e2
  exact ⟨y, ey, h2 x y _ _ d e3 W1 S1 s Q R1 (R1.vw q1) ry fun v W3 R3 f3 q3 => k v W3 R3 (f1.trans f3) q3⟩

theorem me_op {op : Operator} (ho : OpM X (binaryOp op) g) (ha : ME X a fa) (hb : ME X b fb) : ME X (.BinOp a op b pos) (eOp g fa fb) := by
  obtain ⟨r, h1, h2⟩ := ho
  obtain ⟨ta, p1, q1⟩ := ha
  obtain ⟨tb, p2, q2⟩ := hb
  exact ⟨_, pe_op h1 p1 p2, te_op h2 q1 q2⟩
theorem me_cmp {op : CmpOp} (ho : OpM X (compareOp op) g) (ha : ME X a fa) (hb : ME X b fb) (hm : behindInMarks op b = false := by first | exact nomark _ | rfl) : ME X (.Compare a [op] [b] pos) (eOp g fa fb) := by
  obtain ⟨r, h1, h2⟩ := ho
  obtain ⟨ta, p1, q1⟩ := ha
  obtain ⟨tb, p2, q2⟩ := hb
  exact ⟨_, pe_cmpR h1 p1 p2 hm, te_op h2 q1 q2⟩
theorem me_cmpR {op : CmpOp} {x : Str} {xp : Pos} (j : Nat) (ho : OpM X (compareOp op) g) (ha : ME X a fa) (hN : X.N[j]? = some x := by rfl) (hv : Vis X.env.scope x := by first | exact Or.inl rfl | exact Or.inr (Or.inl rfl) | exact Or.inr (Or.inr rfl))
    (hm : behindInMarks op (.Name x xp) = false := by first | exact nomark _ | rfl) (hd : (x == ("__debug__" : Str)) = false := by decide) (hcd : (x == ("__classdict__" : Str)) = false := by decide) :
    ME X (.Compare a [op] [.Name x xp] pos) (eOpR g fa j) := by
  obtain ⟨r, h1, h2⟩ := ho
  obtain ⟨ta, p1, q1⟩ := ha
  exact ⟨_, pe_cmpR h1 p1 (pe_var hN hv hd hcd) hm, te_opR h2 q1⟩
/-- subscripts -/
def IxM (X : Cx) (g : D → D → Option D) : Prop := ∃ r : R2, IxR X r ∧ ∀ x y d e z, g d e = some z → ∀ W S s (Q : VK), Rel X.K W S s → RH X.K W x d → RH X.K W y e →
  (∀ v W', Rel X.K W' S s → Fr W S.r s W' S.r s → RV X.K W'.F W'.io v z → Q v W'.H) → r x y W.H Q
theorem me_ix (ho : IxM X g) (ha : ME X a fa) (hb : ME X b fb) (hs : PlainIx b := by intro _ _; rfl) : ME X (.Subscript a b pos) (eOp g fa fb) := by
  obtain ⟨r, h1, h2⟩ := ho
  obtain ⟨ta, p1, q1⟩ := ha
  obtain ⟨tb, p2, q2⟩ := hb
  exact ⟨_, pe_ix h1 p1 p2 hs, te_op h2 q1 q2⟩
theorem me_ixV {x : Str} {xp : Pos} (i : Nat) (ho : IxM X g) (hb : ME X b fb) (hs : PlainIx b := by intro _ _; rfl) (hN : X.N[i]? = some x := by rfl) (hv : Vis X.env.scope x := by first | exact Or.inl rfl | exact Or.inr (Or.inl rfl) | exact Or.inr (Or.inr rfl))
    (hd : (x == ("__debug__" : Str)) = false := by decide) (hcd : (x == ("__classdict__" : Str)) = false := by decide) : ME X (.Subscript (.Name x xp) b pos) (eOpL g i fb) := by
  obtain ⟨r, h1, h2⟩ := ho
  obtain ⟨tb, p2, q2⟩ := hb
  exact ⟨_, pe_ix h1 (pe_var hN hv hd hcd) p2 hs, te_opL h2 q2⟩
end

/-! ### the operations on data -/
def LIM : Nat := 1000000
def gAddI : D → D → Option D
  | .int i, .int j => some (.int (i + j))
  | _, _ => none
def gAddS : D → D → Option D
  | .str a, .str b => if a.length + b.length ≤ LIM then some (.str (a ++ b)) else none
  | _, _ => none
def gAddL : D → D → Option D
  | .lst a, .lst b => if a.length + b.length ≤ LIM then some (.lst (a ++ b)) else none
  | _, _ => none
def gSub : D → D → Option D
  | .int i, .int j => some (.int (i - j))
  | _, _ => none
def B64 : Int := 18446744073709551616
def gMul : D → D → Option D
  | .int i, .int j => if (-B64 < i ∧ i < B64) ∨ (-B64 < j ∧ j < B64) then some (.int (i * j)) else none
  | _, _ => none
def BDIV : Int := 10 ^ 50
def gDiv : D → D → Option D
  | .int i, .int j => if 0 < j ∧ j < BDIV then some (.int (i / j)) else none
  | _, _ => none
def gMod : D → D → Option D
  | .int i, .int j => if 0 < j then some (.int (i % j)) else none
  | _, _ => none
def gPow : D → D → Option D
  | .int i, .int j => if 0 ≤ j ∧ j ≤ 1000000 ∧ -B64 < i ∧ i < B64 then some (.int (i ^ j.toNat)) else none
  | _, _ => none
def gI (p : Int → Int → Bool) : D → D → Option D
  | .int i, .int j => some (.bl (p i j))
  | _, _ => none
def gLt := gI fun i j => decide (i < j)
def gLe := gI fun i j => decide (i ≤ j)
def gGt := gI fun i j => decide (j < i)
def gGe := gI fun i j => decide (j ≤ i)
def gIsN : D → D → Option D
  | .non, .non => some (.bl true)
  | .bl _, .non | .int _, .non | .str _, .non | .tup _, .non | .lst _, .non | .sc _, .non | .dct _, .non | .ref _, .non => some (.bl false)
  | _, _ => none
def gNotN (d e : D) : Option D := (gIsN d e).bind fun z => match z with
  | .bl b => some (.bl (!b))
  | _ => none
mutual
def toPy : D → Option PyData
  | .non => some .none
  | .bl b => some (.bool b)
  | .int i => some (.int i)
  | .str s => some (.str s)
  | .tup ds => (toPys ds).map .tuple
  | .lst ds => (toPys ds).map .list
  | .sc _ | .dct _ | .ref _ => none
def toPys : List D → Option (List PyData)
  | [] => some []
  | d :: ds => (toPy d).bind fun p => (toPys ds).bind fun q => some (p :: q)
end
def eqD (d e : D) : Option Bool := (toPy d).bind fun p => (toPy e).bind fun q => if SeqAt.shaped p = true ∧ SeqAt.shaped q = true then some (PyData.eqv p q) else none
def gEq (d e : D) : Option D := (eqD d e).bind fun b => some (.bl b)
def gNe (d e : D) : Option D := (eqD d e).bind fun b => some (.bl (!b))
def gIx : D → D → Option D
  | .tup ds, .int i => atI ds i
  | .lst ds, .int i => atI ds i
  | .sc ds, .int i => atI ds i
  | .str z, .int i => if z.length ≤ LIM then (atI z.cps.toList i).bind fun c => some (.str ⟨#[c]⟩) else none
  | _, _ => none

section
variable {X : Cx}
theorem lim_line : LIM ≤ sizeLine := by rw [sizeLine_eq]; decide
theorem rhI {K : PySem.W.Frag} {W : Wd} {x : V} {i : Int} (h : RH K W x (.int i)) : x = .int i := RV.int_inv h
theorem rhS {K : PySem.W.Frag} {W : Wd} {x : V} {i : Str} (h : RH K W x (.str i)) : x = .str i := RV.str_inv h
/-- ints in -/
theorem opM_I0 {f : Value → Value → Sem Value} {g : Int → Int → V} {gd : Int → Int → D} {G : D → D → Option D} (h : OpR X f (rI0 g)) (hG : ∀ d e z, G d e = some z → ∃ i j, d = .int i ∧ e = .int j ∧ z = gd i j)
    (hv : ∀ i j F io, RV X.K F io (g i j) (gd i j)) : OpM X f G := by
  refine ⟨_, h, fun x y d e z hz W S s Q R rx ry k => ?_⟩
  obtain ⟨i, j, rfl, rfl, rfl⟩ := hG d e z hz
  exact ⟨i, j, rhI rx, rhI ry, k _ W R .refl (hv i j _ _)⟩
theorem opM_I {f : Value → Value → Sem Value} {C : Int → Int → Prop} {g : Int → Int → V} {gd : Int → Int → D} {G : D → D → Option D} (h : OpR X f (rI C g)) (hG : ∀ d e z, G d e = some z → ∃ i j, d = .int i ∧ e = .int j ∧ z = gd i j ∧ C i j)
    (hv : ∀ i j F io, RV X.K F io (g i j) (gd i j)) : OpM X f G := by
  refine ⟨_, h, fun x y d e z hz W S s Q R rx ry k => ?_⟩
  obtain ⟨i, j, rfl, rfl, rfl, c⟩ := hG d e z hz
  exact ⟨i, j, rhI rx, rhI ry, c, k _ W R .refl (hv i j _ _)⟩
theorem oAddI : OpM X (binaryOp .Add) gAddI := opM_I0 (gd := fun i j => .int (i + j)) op_add (fun d e z h => by
  unfold gAddI at h; split at h <;> cases h; exact ⟨_, _, rfl, rfl, rfl⟩) fun i j _ _ => .int _
theorem oSub : OpM X (binaryOp .Sub) gSub := opM_I0 (gd := fun i j => .int (i - j)) op_sub (fun d e z h => by
  unfold gSub at h; split at h <;> cases h; exact ⟨_, _, rfl, rfl, rfl⟩) fun i j _ _ => .int _
theorem oMul : OpM X (binaryOp .Mult) gMul := opM_I (gd := fun i j => .int (i * j)) op_mul (fun d e z h => by
  unfold gMul at h
  split at h
  · split at h
    · rename_i c; cases h; exact ⟨_, _, rfl, rfl, rfl, c⟩
    · cases h
  · cases h) fun i j _ _ => .int _
theorem log_bdiv {j : Int} (h0 : 0 < j) (h : j < BDIV) : j.natAbs.log2 < 9000 := by
  have e : j.natAbs < 10 ^ 50 := by unfold BDIV at h; omega
  have e2 : j.natAbs < 2 ^ 200 := Nat.lt_trans e (by decide)
  have := PySem.Flt.log2_lt_of (k := 200) (by decide) e2
  omega
theorem oDiv : OpM X (binaryOp .FloorDiv) gDiv := opM_I (gd := fun i j => .int (i / j)) op_fdivW (fun d e z h => by
  unfold gDiv at h
  split at h
  · split at h
    · rename_i c; cases h; exact ⟨_, _, rfl, rfl, rfl, c.1, log_bdiv c.1 c.2⟩
    · cases h
  · cases h) fun i j _ _ => .int _
theorem oMod : OpM X (binaryOp .Mod) gMod := opM_I (gd := fun i j => .int (i % j)) op_mod (fun d e z h => by
  unfold gMod at h
  split at h
  · split at h
    · rename_i c; cases h; exact ⟨_, _, rfl, rfl, rfl, c⟩
    · cases h
  · cases h) fun i j _ _ => .int _
theorem oPow : OpM X (binaryOp .Pow) gPow := opM_I (gd := fun i j => .int (i ^ j.toNat)) op_pow (fun d e z h => by
  unfold gPow at h
  split at h
  · split at h
    · rename_i c
      cases h
      refine ⟨_, _, rfl, rfl, rfl, c.1, c.2.1, ?_⟩
      have := c.2.2
      unfold B64 at this
      omega
    · cases h
  · cases h) fun i j _ _ => .int _
theorem oLt : OpM X (compareOp .Lt) gLt := opM_I0 (gd := fun i j => .bl (decide (i < j))) op_lt (fun d e z h => by
  unfold gLt gI at h; split at h <;> cases h; exact ⟨_, _, rfl, rfl, rfl⟩) fun i j _ _ => .bl _
theorem oLe : OpM X (compareOp .LtE) gLe := opM_I0 (gd := fun i j => .bl (decide (i ≤ j))) op_le (fun d e z h => by
  unfold gLe gI at h; split at h <;> cases h; exact ⟨_, _, rfl, rfl, rfl⟩) fun i j _ _ => .bl _
theorem oGt : OpM X (compareOp .Gt) gGt := opM_I0 (gd := fun i j => .bl (decide (j < i))) op_gt (fun d e z h => by
  unfold gGt gI at h; split at h <;> cases h; exact ⟨_, _, rfl, rfl, rfl⟩) fun i j _ _ => .bl _
theorem oGe : OpM X (compareOp .GtE) gGe := opM_I0 (gd := fun i j => .bl (decide (j ≤ i))) op_ge (fun d e z h => by
  unfold gGe gI at h; split at h <;> cases h; exact ⟨_, _, rfl, rfl, rfl⟩) fun i j _ _ => .bl _
theorem oAddS : OpM X (binaryOp .Add) gAddS := by
  refine ⟨_, op_add_str, fun x y d e z hz W S s Q R rx ry k => ?_⟩
  unfold gAddS at hz
  split at hz
  · split at hz
    · rename_i a b c
      cases hz
      exact ⟨a, b, rhS rx, rhS ry, Nat.le_trans c lim_line, k _ W R .refl (.str _)⟩
    · cases hz
  · cases hz
theorem oAddL : OpM X (binaryOp .Add) gAddL := by
  refine ⟨_, op_cat, fun x y d e z hz W S s Q R rx ry k => ?_⟩
  unfold gAddL at hz
  split at hz
  · split at hz
    · rename_i a b c
      cases hz
      obtain ⟨l, xs, rfl, h1, h2⟩ := rx
      obtain ⟨m, zs, rfl, h3, h4⟩ := ry
      refine ⟨l, m, xs, zs, rfl, rfl, h1, h3, by rw [h2.length, h4.length]; exact Nat.le_trans c lim_line, fun p hp => ?_⟩
      obtain ⟨R1, f1⟩ := R.al (o := .lst (xs ++ zs)) hp
      exact k _ _ R1 f1 (.lst upd_same ((h2.append h4).up f1))
    · cases hz
  · cases hz
def gAddT : D → D → Option D
  | .tup a, .tup b => if a.length + b.length ≤ LIM then some (.tup (a ++ b)) else none
  | _, _ => none
theorem rvs_nil {K : PySem.W.Frag} {F : Hp} {io : List Addr} {vs : List V} {ds : List D} (h : RVs K F io vs ds) : vs = [] ↔ ds = [] := by cases h <;> simp
theorem oAddT : OpM X (binaryOp .Add) gAddT := by
  refine ⟨_, op_catA, fun x y d e z hz W S s Q R rx ry k => ?_⟩
  unfold gAddT at hz
  split at hz
  · split at hz
    · rename_i a b c
      cases hz
      obtain ⟨l, xs, rfl, h1, h2⟩ := RV.tup_inv rx
      obtain ⟨m, zs, rfl, h3, h4⟩ := RV.tup_inv ry
      refine ⟨l, m, xs, zs, rfl, rfl, sqT_mono R.sub h1, sqT_mono R.sub h3, by rw [h2.length, h4.length]; exact Nat.le_trans c lim_line, fun e => ?_, fun _ e => ?_, fun _ _ p hp => ?_⟩
      · have e' := (rvs_nil h2).mp e
        subst e'
        exact k _ W R .refl ry
      · have e' := (rvs_nil h4).mp e
        subst e'
        exact k _ W R .refl (by rw [List.append_nil]; exact rx)
      · obtain ⟨R1, f1⟩ := R.al (o := .tup (xs ++ zs)) hp
        exact k _ _ R1 f1 (.tup (.of upd_same) ((h2.append h4).up f1))
    · cases hz
  · cases hz
def gAdd : D → D → Option D := fun d e => (gAddI d e).or ((gAddS d e).or ((gAddL d e).or (gAddT d e)))
theorem oAdd : OpM X (binaryOp .Add) gAdd := oAddI.or (oAddS.or (oAddL.or oAddT))

theorem rh_isN {K : PySem.W.Frag} {W : Wd} {x : V} {d e z : D} (h : gIsN d e = some z) (rx : RH K W x d) (ry : ∀ {y}, RH K W y e → y = .non) : z = .bl (decide (x = .non)) := by
  cases e <;> cases d <;> first
    | (cases h; cases (RV.non_inv rx); rfl)
    | (cases h; cases rx; rfl)
    | (cases h; obtain ⟨a, vs, rfl, _⟩ := rx; rfl)
    | cases h
theorem gIsN_right {d e z : D} (h : gIsN d e = some z) : e = .non := by
  cases e <;> cases d <;> first | rfl | cases h
theorem oIsN : OpM X (compareOp .Is) gIsN := by
  refine ⟨_, op_isN, fun x y d e z hz W S s Q R rx ry k => ?_⟩
  have e1 := gIsN_right hz
  subst e1
  have e2 := rh_isN hz rx (fun h => RV.non_inv h)
  subst e2
  exact ⟨RV.non_inv ry, k _ W R .refl (.bl _)⟩
theorem oNotN : OpM X (compareOp .IsNot) gNotN := by
  refine ⟨_, op_notN, fun x y d e z hz W S s Q R rx ry k => ?_⟩
  obtain ⟨z1, h1, h2⟩ := bind_some hz
  have e1 := gIsN_right h1
  subst e1
  have e2 := rh_isN h1 rx (fun h => RV.non_inv h)
  subst e2
  cases h2
  exact ⟨RV.non_inv ry, k _ W R .refl (.bl _)⟩
theorem RV.dp {K : PySem.W.Frag} {F H : Hp} {io : List Addr} (hF : ∀ a o, F a = some o → H a = some o) {v : V} {d : D} (h : RV K F io v d) : ∀ p, toPy d = some p → Dp K H v p := by
  refine RV.rec (K := K) (F := F) (io := io) (motive_1 := fun v d _ => ∀ p, toPy d = some p → Dp K H v p) (motive_2 := fun vs ds _ => ∀ ps, toPys ds = some ps → DpAll K H vs ps) (motive_3 := fun _ _ _ => True) ?_ ?_ ?_ ?_ ?_ ?_ ?_ ?_ ?_ ?_ ?_ ?_ ?_ h
  · intro p e; cases e; exact .non
  · intro b p e; cases e; exact .bl b
  · intro i p e; cases e; exact .int i
  · intro i p e; cases e; exact .str i
  · intro a vs ds h1 _ ih p e
    simp only [toPy, Option.map_eq_some_iff] at e
    obtain ⟨ps, e1, rfl⟩ := e
    exact .tup (sqT_mono hF h1) (ih ps e1)
  · intro a vs ds h1 _ ih p e
    simp only [toPy, Option.map_eq_some_iff] at e
    obtain ⟨ps, e1, rfl⟩ := e
    exact .lst (.of (hF _ _ h1)) (ih ps e1)
  · intro a vs ds _ _ _ p e; cases e
  · intro a vs ds _ _ _ p e; cases e
  · intro a k _ p e; cases e
  · intro ps e; cases e; exact .nil
  · intro v vs d ds _ _ i1 i2 ps e
    simp only [toPys] at e
    obtain ⟨p, e1, e⟩ := bind_some e
    obtain ⟨q, e2, e⟩ := bind_some e
    cases e
    exact .cons (i1 p e1) (i2 q e2)
  · trivial
  · intros; trivial
theorem RVs.dp {K : PySem.W.Frag} {F H : Hp} {io : List Addr} (hF : ∀ a o, F a = some o → H a = some o) : ∀ {vs : List V} {ds : List D}, RVs K F io vs ds → ∀ ps, toPys ds = some ps → DpAll K H vs ps
  | _, _, .nil, ps, e => by cases e; exact .nil
  | _, _, .cons h t, ps, e => by
    simp only [toPys] at e
    obtain ⟨p, e1, e⟩ := bind_some e
    obtain ⟨q, e2, e⟩ := bind_some e
    cases e
    exact .cons (h.dp hF p e1) (t.dp hF q e2)
theorem rh_dp {K : PySem.W.Frag} {W : Wd} {S : Ms} {s : L2.St} (R : Rel K W S s) {v : V} {d : D} (h : RH K W v d) {p : PyData} (e : toPy d = some p) : Dp K W.H v p := by
  cases d with
  | lst ds =>
    obtain ⟨a, vs, rfl, h1, h2⟩ := h
    simp only [toPy, Option.map_eq_some_iff] at e
    obtain ⟨ps, e1, rfl⟩ := e
    exact .lst (.of h1) (h2.dp R.sub ps e1)
  | dct ds => cases e
  | _ => exact RV.dp R.sub h p e
theorem oEq (hu : X.A.units + 64 < cLine) : OpM X (compareOp .Eq) gEq := by
  refine ⟨_, op_eqD hu, fun x y d e z hz W S s Q R rx ry k => ?_⟩
  obtain ⟨b, hb, hz⟩ := bind_some hz
  cases hz
  obtain ⟨p, hp, hb⟩ := bind_some hb
  obtain ⟨q, hq, hb⟩ := bind_some hb
  split at hb
  · rename_i c
    cases hb
    exact ⟨p, q, rh_dp R rx hp, rh_dp R ry hq, c.1, c.2, k _ W R .refl (.bl _)⟩
  · cases hb
theorem oNe (hu : X.A.units + 64 < cLine) : OpM X (compareOp .NotEq) gNe := by
  refine ⟨_, op_neD hu, fun x y d e z hz W S s Q R rx ry k => ?_⟩
  obtain ⟨b, hb, hz⟩ := bind_some hz
  cases hz
  obtain ⟨p, hp, hb⟩ := bind_some hb
  obtain ⟨q, hq, hb⟩ := bind_some hb
  split at hb
  · rename_i c
    cases hb
    exact ⟨p, q, rh_dp R rx hp, rh_dp R ry hq, c.1, c.2, k _ W R .refl (.bl _)⟩
  · cases hb
theorem atI_rv {K : PySem.W.Frag} {F : Hp} {io : List Addr} {vs : List V} {ds : List D} (h : RVs K F io vs ds) {i : Int} {d : D} (e : atI ds i = some d) : ∃ v, atI vs i = some v ∧ RV K F io v d := by
  unfold atI at e ⊢
  rw [← h.length] at e
  obtain ⟨j, e1, e2⟩ := bind_some e
  obtain ⟨v, e3, q⟩ := h.get e2
  exact ⟨v, by rw [e1]; exact e3, q⟩
theorem oIx : IxM X gIx := by
  refine ⟨_, ix_seq, fun x y d e z hz W S s Q R rx ry k => ?_⟩
  unfold gIx at hz
  split at hz
  · obtain ⟨a, vs, rfl, h1, h2⟩ := RV.tup_inv rx
    obtain ⟨v, e1, q⟩ := atI_rv h2 hz
    exact .inr (.inl ⟨a, vs, _, v, rfl, rhI ry, sqT_mono R.sub h1, e1, k _ W R .refl q⟩)
  · obtain ⟨a, vs, rfl, h1, h2⟩ := rx
    obtain ⟨v, e1, q⟩ := atI_rv h2 hz
    exact .inl ⟨a, vs, _, v, rfl, rhI ry, .of h1, e1, k _ W R .refl q⟩
  · obtain ⟨a, vs, rfl, h1, h2⟩ := RV.sc_inv rx
    obtain ⟨v, e1, q⟩ := atI_rv h2 hz
    exact .inl ⟨a, vs, _, v, rfl, rhI ry, sqL_mono R.sub h1, e1, k _ W R .refl q⟩
  · split at hz
    · rename_i z' i c
      obtain ⟨c', e1, e2⟩ := bind_some hz
      cases e2
      exact .inr (.inr ⟨z', i, c', rhS rx, rhI ry, Nat.le_trans c lim_line, e1, k _ W R .refl (.str _)⟩)
    · cases hz
  · cases hz
end
end M

/-! M2: tests, displays, slices, calls of built-ins, what a loop walks, list comprehensions. -/
namespace M
open PySem L2

/-! ### tests -/
def bOf (f : EF) : BF := fun S => (f S).bind fun p => match p.1 with
  | .bl b => some (b, p.2)
  | _ => none
def gTru : D → Option Bool
  | .non => some false
  | .bl b => some b
  | .int i => some (i != 0)
  | .str y => if y.length ≤ LIM then some ((y.length : Int) != 0) else none
  | .lst ds => some (!ds.isEmpty)
  | .tup ds => some (!ds.isEmpty)
  | .sc ds => some (!ds.isEmpty)
  | .dct ds => some (!ds.isEmpty)
  | .ref _ => none
def bTru (f : EF) : BF := fun S => (f S).bind fun p => (gTru (vw p.2 p.1)).bind fun b => some (b, p.2)
def bTruV (i : Nat) : BF := fun S => (sees i S).bind fun d => (gTru d).bind fun b => some (b, S)
def bAnd (f g : BF) : BF := fun S => (f S).bind fun p => if p.1 then g p.2 else some (false, p.2)
def bOr (f g : BF) : BF := fun S => (f S).bind fun p => if p.1 then some (true, p.2) else g p.2
def bNot (f : BF) : BF := fun S => (f S).bind fun p => some (!p.1, p.2)
def eAnd (f g : EF) : EF := fun S => (f S).bind fun p => match p.1 with
  | .bl true => g p.2
  | .bl false => some (.bl false, p.2)
  | _ => none
def eOr (f g : EF) : EF := fun S => (f S).bind fun p => match p.1 with
  | .bl true => some (.bl true, p.2)
  | .bl false => g p.2
  | _ => none
def eNot (f : EF) : EF := fun S => (f S).bind fun p => match p.1 with
  | .bl b => some (.bl (!b), p.2)
  | _ => none
def eIf (t : BF) (f g : EF) : EF := fun S => (t S).bind fun p => if p.1 then f p.2 else g p.2
def gNeg : D → Option D
  | .int i => some (.int (-i))
  | _ => none
def eUn (g : D → Option D) (f : EF) : EF := fun S => (f S).bind fun p => (g p.1).bind fun z => some (z, p.2)

section
variable {X : Cx} {pos : Pos} {a b c e : Expr} {fa fb : EF} {ga gb : BF} {g : D → D → Option D} {rest : List Expr}
theorem tt_of {K : PySem.W.Frag} {t : TE} {f : EF} (h : TEok K t f) : TTok K (fun s H Q => t s H fun x H1 => ∃ k, x = .bl k ∧ Q k H1) (bOf f) := by
  intro S d S' q W s Q R k
  obtain ⟨⟨d1, S1⟩, e1, q⟩ := bind_some q
  simp only at q
  split at q
  · rename_i b
    cases q
    exact h S _ _ e1 W s _ R fun v W1 R1 f1 q1 => ⟨_, q1.bl_inv, k W1 R1 f1⟩
  · cases q
theorem mt_val (h : ME X e fa) (he : ∀ whole, isTrue e X.env whole = (do let v ← whole; standAt e.pos; holding [v] (truthy v)) := by intro _; rfl) : MT X e (bOf fa) := by
  obtain ⟨t, p, q⟩ := h
  exact ⟨_, pt_val p he, tt_of q⟩
theorem mt_cmp {op : CmpOp} (ho : OpM X (compareOp op) g) (ha : ME X a fa) (hb : ME X b fb) (hm : behindInMarks op b = false := by first | exact nomark _ | rfl) : MT X (.Compare a [op] [b] pos) (bOf (eOp g fa fb)) := by
  obtain ⟨r, h1, h2⟩ := ho
  obtain ⟨ta, p1, q1⟩ := ha
  obtain ⟨tb, p2, q2⟩ := hb
  exact ⟨_, pt_cmpR h1 p1 p2 hm, tt_of (te_op h2 q1 q2)⟩
theorem mt_cmpR {op : CmpOp} {x : Str} {xp : Pos} (j : Nat) (ho : OpM X (compareOp op) g) (ha : ME X a fa) (hN : X.N[j]? = some x := by rfl) (hv : Vis X.env.scope x := by first | exact Or.inl rfl | exact Or.inr (Or.inl rfl) | exact Or.inr (Or.inr rfl))
    (hm : behindInMarks op (.Name x xp) = false := by first | exact nomark _ | rfl) (hd : (x == ("__debug__" : Str)) = false := by decide) (hcd : (x == ("__classdict__" : Str)) = false := by decide) :
    MT X (.Compare a [op] [.Name x xp] pos) (bOf (eOpR g fa j)) := by
  obtain ⟨r, h1, h2⟩ := ho
  obtain ⟨ta, p1, q1⟩ := ha
  exact ⟨_, pt_cmpR h1 p1 (pe_var hN hv hd hcd) hm, tt_of (te_opR h2 q1)⟩
theorem tru_of {K : PySem.W.Frag} {W : Wd} {S : Ms} {s : L2.St} (R : Rel K W S s) {v : V} {d : D} (h : RH K W v d) {b : Bool} (e : gTru d = some b) : TruV K v W.H b := by
  cases d with
  | non => cases e; cases RV.non_inv h; rfl
  | bl b => cases e; cases RV.bl_inv h; rfl
  | int i => cases e; cases RV.int_inv h; rfl
  | str y =>
    have e : (if y.length ≤ LIM then some ((y.length : Int) != 0) else none) = some b := e
    split at e
    · rename_i c; cases e; cases RV.str_inv h; exact ⟨Nat.le_trans c lim_line, rfl⟩
    · cases e
  | tup ds => cases e; obtain ⟨a, vs, rfl, h1, h2⟩ := RV.tup_inv h; exact .inr (.inl ⟨vs, sqT_mono R.sub h1, by cases h2 <;> rfl⟩)
  | lst ds => cases e; obtain ⟨a, vs, rfl, h1, h2⟩ := h; exact .inl ⟨vs, .of h1, by cases h2 <;> rfl⟩
  | sc ds => cases e; obtain ⟨a, vs, rfl, h1, h2⟩ := RV.sc_inv h; exact .inl ⟨vs, sqL_mono R.sub h1, by cases h2 <;> rfl⟩
  | dct ds => cases e; obtain ⟨a, vs, rfl, h1, h2⟩ := h; exact .inr (.inr ⟨vs, h1, by cases h2 <;> rfl⟩)
  | ref k => cases e
theorem mt_tru (h : ME X e fa) (he : ∀ whole, isTrue e X.env whole = (do let v ← whole; standAt e.pos; holding [v] (truthy v)) := by intro _; rfl) : MT X e (bTru fa) := by
  obtain ⟨t, p, q⟩ := h
  refine ⟨_, pt_truth p he, fun S d S' h W s Q R k => ?_⟩
  obtain ⟨⟨d1, S1⟩, e1, h⟩ := bind_some h
  obtain ⟨b, e2, h⟩ := bind_some h
  cases h
  exact q S _ _ e1 W s _ R fun v W1 R1 f1 q1 => ⟨_, tru_of R1 (R1.vw q1) e2, k W1 R1 f1⟩
theorem mt_truV {x : Str} {xp : Pos} (i : Nat) (hN : X.N[i]? = some x := by rfl) (hv : Vis X.env.scope x := by first | exact Or.inl rfl | exact Or.inr (Or.inl rfl) | exact Or.inr (Or.inr rfl))
    (hd : (x == ("__debug__" : Str)) = false := by decide) (hcd : (x == ("__classdict__" : Str)) = false := by decide) : MT X (.Name x xp) (bTruV i) := by
  refine ⟨_, pt_truth (pe_var hN hv hd hcd) (by intro _; rfl), fun S d S' h W s Q R k => ?_⟩
  obtain ⟨d1, e1, h⟩ := bind_some h
  obtain ⟨b, e2, h⟩ := bind_some h
  cases h
  obtain ⟨v, e3, q⟩ := R.sees e1
  exact ⟨v, e3, _, tru_of R q e2, k W R .refl⟩
theorem mw_and1 (ha : MT X a ga) : MW X (.BoolOp .And [a] pos) ga := by
  obtain ⟨t, p, q⟩ := ha
  exact ⟨_, pw_and1 p, q⟩
theorem mw_or1 (ha : MT X a ga) : MW X (.BoolOp .Or [a] pos) ga := by
  obtain ⟨t, p, q⟩ := ha
  exact ⟨_, pw_or1 p, q⟩
theorem mw_and (ha : MT X a ga) (hb : MW X (.BoolOp .And (b :: rest) pos) gb) : MW X (.BoolOp .And (a :: b :: rest) pos) (bAnd ga gb) := by
  obtain ⟨t, p, q⟩ := ha
  obtain ⟨u, p', q'⟩ := hb
  refine ⟨_, pw_and p p', fun S d S' h W s Q R k => ?_⟩
  obtain ⟨⟨c, S1⟩, e1, h⟩ := bind_some h
  refine q S _ _ e1 W s _ R fun W1 R1 f1 => ?_
  cases c with
  | true => exact q' S1 _ _ h W1 s _ R1 fun W2 R2 f2 => k W2 R2 (f1.trans f2)
  | false => cases h; exact k W1 R1 f1
theorem mw_or (ha : MT X a ga) (hb : MW X (.BoolOp .Or (b :: rest) pos) gb) : MW X (.BoolOp .Or (a :: b :: rest) pos) (bOr ga gb) := by
  obtain ⟨t, p, q⟩ := ha
  obtain ⟨u, p', q'⟩ := hb
  refine ⟨_, pw_or p p', fun S d S' h W s Q R k => ?_⟩
  obtain ⟨⟨c, S1⟩, e1, h⟩ := bind_some h
  refine q S _ _ e1 W s _ R fun W1 R1 f1 => ?_
  cases c with
  | false => exact q' S1 _ _ h W1 s _ R1 fun W2 R2 f2 => k W2 R2 (f1.trans f2)
  | true => cases h; exact k W1 R1 f1
theorem mt_w (h : MW X e ga) : MT X e ga := by
  obtain ⟨t, p, q⟩ := h
  exact ⟨_, p.pt, q⟩
theorem mt_not (h : MT X e ga) : MT X (.UnaryOp .Not e pos) (bNot ga) := by
  obtain ⟨t, p, q⟩ := h
  refine ⟨_, pt_not p, fun S d S' h W s Q R k => ?_⟩
  obtain ⟨⟨c, S1⟩, e1, h⟩ := bind_some h
  cases h
  exact q S _ _ e1 W s _ R fun W1 R1 f1 => k W1 R1 f1
theorem me_one {op} (h : ME X a fa) : ME X (.BoolOp op [a] pos) fa := by
  obtain ⟨t, p, q⟩ := h
  exact ⟨_, pe_one p, q⟩
theorem me_and (ha : ME X a fa) (hb : ME X (.BoolOp .And (b :: rest) pos) fb) : ME X (.BoolOp .And (a :: b :: rest) pos) (eAnd fa fb) := by
  obtain ⟨t, p, q⟩ := ha
  obtain ⟨u, p', q'⟩ := hb
  refine ⟨_, pe_and p p', fun S d S' h W s Q R k => ?_⟩
  obtain ⟨⟨c, S1⟩, e1, h⟩ := bind_some h
  refine q S _ _ e1 W s _ R fun v W1 R1 f1 r1 => ?_
  simp only at h
  split at h
  · exact ⟨true, r1.bl_inv, q' S1 _ _ h W1 s _ R1 fun v W2 R2 f2 r2 => k v W2 R2 (f1.trans f2) r2⟩
  · cases h; exact ⟨false, r1.bl_inv, k _ W1 R1 f1 (.bl _)⟩
  · cases h
theorem me_or (ha : ME X a fa) (hb : ME X (.BoolOp .Or (b :: rest) pos) fb) : ME X (.BoolOp .Or (a :: b :: rest) pos) (eOr fa fb) := by
  obtain ⟨t, p, q⟩ := ha
  obtain ⟨u, p', q'⟩ := hb
  refine ⟨_, pe_or p p', fun S d S' h W s Q R k => ?_⟩
  obtain ⟨⟨c, S1⟩, e1, h⟩ := bind_some h
  refine q S _ _ e1 W s _ R fun v W1 R1 f1 r1 => ?_
  simp only at h
  split at h
  · cases h; exact ⟨true, r1.bl_inv, k _ W1 R1 f1 (.bl _)⟩
  · exact ⟨false, r1.bl_inv, q' S1 _ _ h W1 s _ R1 fun v W2 R2 f2 r2 => k v W2 R2 (f1.trans f2) r2⟩
  · cases h
theorem me_not (ha : ME X a fa) : ME X (.UnaryOp .Not a pos) (eNot fa) := by
  obtain ⟨t, p, q⟩ := ha
  refine ⟨_, pe_not p, fun S d S' h W s Q R k => ?_⟩
  obtain ⟨⟨c, S1⟩, e1, h⟩ := bind_some h
  refine q S _ _ e1 W s _ R fun v W1 R1 f1 r1 => ?_
  simp only at h
  split at h
  · cases h; exact ⟨_, r1.bl_inv, k _ W1 R1 f1 (.bl _)⟩
  · cases h
theorem me_if (hc : MT X c ga) (ha : ME X a fa) (hb : ME X b fb) : ME X (.IfExp c a b pos) (eIf ga fa fb) := by
  obtain ⟨t, p, q⟩ := hc
  obtain ⟨ta, p1, q1⟩ := ha
  obtain ⟨tb, p2, q2⟩ := hb
  refine ⟨_, pe_ifExp p p1 p2, fun S d S' h W s Q R k => ?_⟩
  obtain ⟨⟨c, S1⟩, e1, h⟩ := bind_some h
  refine q S _ _ e1 W s _ R fun W1 R1 f1 => ?_
  cases c with
  | true => exact q1 S1 _ _ h W1 s _ R1 fun v W2 R2 f2 r2 => k v W2 R2 (f1.trans f2) r2
  | false => exact q2 S1 _ _ h W1 s _ R1 fun v W2 R2 f2 r2 => k v W2 R2 (f1.trans f2) r2
theorem me_neg (ha : ME X a fa) : ME X (.UnaryOp .USub a pos) (eUn gNeg fa) := by
  obtain ⟨t, p, q⟩ := ha
  refine ⟨_, pe_un un_neg p, fun S d S' h W s Q R k => ?_⟩
  obtain ⟨⟨c, S1⟩, e1, h⟩ := bind_some h
  obtain ⟨z, e2, h⟩ := bind_some h
  cases h
  refine q S _ _ e1 W s _ R fun v W1 R1 f1 r1 => ?_
  simp only at e2
  unfold gNeg at e2
  split at e2
  · cases e2; exact ⟨_, r1.int_inv, k _ W1 R1 f1 (.int _)⟩
  · cases e2
end

/-! ### argument lists, displays -/
def aNil : AF := fun S => some ([], S)
def aCons (f : EF) (g : AF) : AF := fun S => (f S).bind fun p => (g p.2).bind fun q => some (p.1 :: q.1, q.2)
def eTup (f : AF) : EF := fun S => (f S).bind fun p => if p.1.length ≤ LIM then some (.tup p.1, p.2) else none
def cLst (f : AF) : CF := fun S => (f S).bind fun p => if p.1.length ≤ LIM then some (.lst p.1, p.2) else none
def eNew (f : CF) : EF := fun S => (f S).bind fun p => match p.1 with
  | .lst ds => some (.lst ds, p.2)
  | .dct ds => some (.dct ds, p.2)
  | _ => none
section
variable {X : Cx} {pos : Pos} {e : Expr} {es : List Expr} {f : EF} {g : AF} {c : CF}
theorem ma_nil : MA X [] aNil := ⟨_, pa_nil, fun S d S' h W s Q R k => by cases h; exact k _ W R .refl .nil⟩
theorem ma_cons (h : ME X e f) (hr : MA X es g) (hs : starEach (e :: es) X.env = (false, eval e X.env) :: starEach es X.env := by rfl) : MA X (e :: es) (aCons f g) := by
  obtain ⟨t, p, q⟩ := h
  obtain ⟨u, p', q'⟩ := hr
  refine ⟨_, pa_cons p p' hs, fun S d S' h W s Q R k => ?_⟩
  obtain ⟨⟨d1, S1⟩, e1, h⟩ := bind_some h
  obtain ⟨⟨d2, S2⟩, e2, h⟩ := bind_some h
  cases h
  refine q S _ _ e1 W s _ R fun v W1 R1 f1 r1 => ?_
  exact q' S1 _ _ e2 W1 s _ R1 fun vs W2 R2 f2 r2 => k _ W2 R2 (f1.trans f2) (.cons (r1.up f2) r2)
theorem me_tup {k} (h : MA X es g) : ME X (.Tuple es k pos) (eTup g) := by
  obtain ⟨t, p, q⟩ := h
  refine ⟨_, pe_tup p, fun S d S' h W s Q R k => ?_⟩
  obtain ⟨⟨ds, S1⟩, e1, h⟩ := bind_some h
  simp only at h
  split at h
  · rename_i c
    cases h
    refine q S _ _ e1 W s _ R fun vs W1 R1 f1 r1 => ?_
    refine ⟨by rw [r1.length]; exact Nat.le_trans c lim_line, fun p hp => ?_⟩
    obtain ⟨R2, f2⟩ := R1.al (o := .tup vs) hp
    exact k _ _ R2 (f1.trans f2) (.tup (.of upd_same) (r1.up f2))
  · cases h
theorem mf_lst (h : MA X es g) : MF X (.List es pos) (cLst g) := by
  obtain ⟨t, p, q⟩ := h
  refine ⟨_, pe_lst p, fun S d S' h W s Q R k => ?_⟩
  obtain ⟨⟨ds, S1⟩, e1, h⟩ := bind_some h
  simp only at h
  split at h
  · rename_i c
    cases h
    refine q S _ _ e1 W s _ R fun vs W1 R1 f1 r1 => ?_
    refine ⟨by rw [r1.length]; exact Nat.le_trans c lim_line, fun p hp => ?_⟩
    obtain ⟨R2, f2, n⟩ := R1.newLst hp r1
    exact k _ _ R2 (f1.trans f2) (f1.hp _ hp) n
  · cases h
theorem me_new (h : MF X e c) : ME X e (eNew c) := by
  obtain ⟨t, p, q⟩ := h
  refine ⟨t, p, fun S d S' h W s Q R k => ?_⟩
  obtain ⟨⟨c, S1⟩, e1, h⟩ := bind_some h
  refine q S _ _ e1 W s _ R fun a W1 R1 f1 hp n => ?_
  cases c with
  | lst ds =>
    cases h
    obtain ⟨W2, e2, R2, f2, r⟩ := R1.freezeLst f1 hp n
    rw [← e2]
    exact k _ W2 R2 f2 r
  | dct ds =>
    cases h
    obtain ⟨W2, e2, R2, f2, r⟩ := R1.freezeDct f1 hp n
    rw [← e2]
    exact k _ W2 R2 f2 r
  | obj C fs => cases h
  | dT ds => cases h
end

/-! ### slices -/
def cutD (xs : List D) (lo hi : Option Int) : List D := (xs.drop (HT.sIx xs.length 0 lo)).take (HT.sIx xs.length xs.length hi - HT.sIx xs.length 0 lo)
def oNone : OF := fun S => some (none, S)
def oSome (f : EF) : OF := fun S => (f S).bind fun p => match p.1 with
  | .int i => some (some i, p.2)
  | _ => none
def gSl (d : D) (lo hi : Option Int) : Option D := match d with
  | .tup ds => some (.tup (cutD ds lo hi))
  | .str z => if z.length ≤ LIM then some (.str (cutS z lo hi)) else none
  | _ => none
def gSlL (d : D) (lo hi : Option Int) : Option Cell := match d with
  | .lst ds => some (.lst (cutD ds lo hi))
  | .sc ds => some (.lst (cutD ds lo hi))
  | _ => none
def eSl (f : EF) (l h : OF) : EF := fun S => (f S).bind fun p => (l p.2).bind fun q => (h q.2).bind fun r => (gSl p.1 q.1 r.1).bind fun z => some (z, r.2)
def cSl (f : EF) (l h : OF) : CF := fun S => (f S).bind fun p => (l p.2).bind fun q => (h q.2).bind fun r => (gSlL (vw r.2 p.1) q.1 r.1).bind fun z => some (z, r.2)
def cSlV (i : Nat) (l h : OF) : CF := fun S => if held i S then (l S).bind fun q => (h q.2).bind fun r => (sees i r.2).bind fun d => (gSlL d q.1 r.1).bind fun z => some (z, r.2) else none
section
variable {X : Cx} {pos p2 : Pos} {e : Expr} {lo hi : Option Expr} {f : EF} {l h : OF}
theorem mo_none : MO X none oNone := ⟨_, po_none, fun S d S' h W s Q R k => by cases h; exact k W R .refl⟩
theorem mo_some (h : ME X e f) : MO X (some e) (oSome f) := by
  obtain ⟨t, p, q⟩ := h
  refine ⟨_, po_some p, fun S d S' h W s Q R k => ?_⟩
  obtain ⟨⟨d1, S1⟩, e1, h⟩ := bind_some h
  simp only at h
  split at h
  · cases h
    exact q S _ _ e1 W s _ R fun v W1 R1 f1 r1 => ⟨_, r1.int_inv, k W1 R1 f1⟩
  · cases h
theorem cut_rv {K : PySem.W.Frag} {F : Hp} {io : List Addr} {vs : List V} {ds : List D} (r : RVs K F io vs ds) (lo hi : Option Int) : RVs K F io (cutV vs lo hi) (cutD ds lo hi) := by
  unfold cutV cutD
  rw [r.length]
  exact (r.drop _).take _
theorem me_sl (he : ME X e f) (hl : MO X lo l) (hh : MO X hi h) : ME X (.Subscript e (.Slice lo hi none p2) pos) (eSl f l h) := by
  obtain ⟨t, p, q⟩ := he
  obtain ⟨tl, pl, ql⟩ := hl
  obtain ⟨th, ph, qh⟩ := hh
  refine ⟨_, pe_slice (sl_tupA.or sl_str) p pl ph, fun S d S' hz W s Q R k => ?_⟩
  obtain ⟨⟨d1, S1⟩, e1, hz⟩ := bind_some hz
  obtain ⟨⟨d2, S2⟩, e2, hz⟩ := bind_some hz
  obtain ⟨⟨d3, S3⟩, e3, hz⟩ := bind_some hz
  obtain ⟨z, e4, hz⟩ := bind_some hz
  cases hz
  refine q S _ _ e1 W s _ R fun v W1 R1 f1 r1 => ?_
  refine ql S1 _ _ e2 W1 s _ R1 fun W2 R2 f2 => ?_
  refine qh S2 _ _ e3 W2 s _ R2 fun W3 R3 f3 => ?_
  have r3 := (r1.up f2).up f3
  have ff := (f1.trans f2).trans f3
  simp only at e4
  unfold gSl at e4
  split at e4
  · cases e4
    obtain ⟨a, vs, rfl, h1, h2⟩ := r3.tup_inv
    refine .inl ⟨a, vs, rfl, sqT_mono R3.sub h1, fun w => ?_, fun _ p hp => ?_⟩
    · refine k _ W3 R3 ff (.tup h1 ?_)
      have e : cutV vs d2 d3 = vs := by unfold cutV; rw [w.1, w.2]; simp
      rw [← e]
      exact cut_rv h2 _ _
    · obtain ⟨R4, f4⟩ := R3.al (o := .tup (cutV vs d2 d3)) hp
      exact k _ _ R4 (ff.trans f4) (.tup (.of upd_same) ((cut_rv h2 _ _).up f4))
  · split at e4
    · rename_i c
      cases e4
      exact .inr ⟨_, r3.str_inv, Nat.le_trans c lim_line, k _ W3 R3 ff (.str _)⟩
    · cases e4
  · cases e4
theorem sl_new {K : PySem.W.Frag} {W0 W : Wd} {S : Ms} {s : L2.St} {r0 : List Slot} (R : Rel K W S s) (f0 : Fr W0 r0 s W S.r s) {v : V} {d : D} {lo hi : Option Int} {c : Cell} (r : RH K W v d) (e : gSlL d lo hi = some c) {Q : VK}
    (k : ∀ a W', Rel K W' S s → Fr W0 r0 s W' S.r s → W0.H a = none → New K W' S s a c → Q (.ref a) W'.H) : rSlL K v lo hi W.H Q := by
  unfold gSlL at e
  split at e
  · cases e
    obtain ⟨a, vs, rfl, h1, h2⟩ := r
    refine ⟨a, vs, rfl, .of h1, fun p hp => ?_⟩
    obtain ⟨R4, f4, n⟩ := R.newLst hp (cut_rv h2 lo hi)
    exact k _ _ R4 (f0.trans f4) (f0.hp _ hp) n
  · cases e
    obtain ⟨a, vs, rfl, h1, h2⟩ := RV.sc_inv r
    refine ⟨a, vs, rfl, sqL_mono R.sub h1, fun p hp => ?_⟩
    obtain ⟨R4, f4, n⟩ := R.newLst hp (cut_rv h2 lo hi)
    exact k _ _ R4 (f0.trans f4) (f0.hp _ hp) n
  · cases e
theorem mf_sl (he : ME X e f) (hl : MO X lo l) (hh : MO X hi h) : MF X (.Subscript e (.Slice lo hi none p2) pos) (cSl f l h) := by
  obtain ⟨t, p, q⟩ := he
  obtain ⟨tl, pl, ql⟩ := hl
  obtain ⟨th, ph, qh⟩ := hh
  refine ⟨_, pe_slice sl_list p pl ph, fun S d S' hz W s Q R k => ?_⟩
  obtain ⟨⟨d1, S1⟩, e1, hz⟩ := bind_some hz
  obtain ⟨⟨d2, S2⟩, e2, hz⟩ := bind_some hz
  obtain ⟨⟨d3, S3⟩, e3, hz⟩ := bind_some hz
  obtain ⟨z, e4, hz⟩ := bind_some hz
  cases hz
  refine q S _ _ e1 W s _ R fun v W1 R1 f1 r1 => ?_
  refine ql S1 _ _ e2 W1 s _ R1 fun W2 R2 f2 => ?_
  refine qh S2 _ _ e3 W2 s _ R2 fun W3 R3 f3 => ?_
  exact sl_new R3 ((f1.trans f2).trans f3) (R3.vw ((r1.up f2).up f3)) e4 k
theorem mf_slV {x : Str} {xp : Pos} (i : Nat) (hl : MO X lo l) (hh : MO X hi h) (hN : X.N[i]? = some x := by rfl) (hv : Vis X.env.scope x := by first | exact Or.inl rfl | exact Or.inr (Or.inl rfl) | exact Or.inr (Or.inr rfl))
    (hd : (x == ("__debug__" : Str)) = false := by decide) (hcd : (x == ("__classdict__" : Str)) = false := by decide) : MF X (.Subscript (.Name x xp) (.Slice lo hi none p2) pos) (cSlV i l h) := by
  obtain ⟨tl, pl, ql⟩ := hl
  obtain ⟨th, ph, qh⟩ := hh
  refine ⟨_, pe_slice sl_list (pe_var hN hv hd hcd) pl ph, fun S d S' hz W s Q R k => ?_⟩
  unfold cSlV at hz
  split at hz
  · rename_i hh
    obtain ⟨⟨d2, S2⟩, e2, hz⟩ := bind_some hz
    obtain ⟨⟨d3, S3⟩, e3, hz⟩ := bind_some hz
    obtain ⟨d1, e1, hz⟩ := bind_some hz
    obtain ⟨z, e4, hz⟩ := bind_some hz
    cases hz
    obtain ⟨v, ev⟩ := R.held hh
    refine ⟨v, ev, ?_⟩
    refine ql S _ _ e2 W s _ R fun W2 R2 f2 => ?_
    refine qh S2 _ _ e3 W2 s _ R2 fun W3 R3 f3 => ?_
    obtain ⟨v', ev', r⟩ := R3.sees e1
    rw [ev] at ev'; cases ev'
    exact sl_new R3 (f2.trans f3) r e4 k
  · cases hz
end

/-! ### built-ins that are called -/
/-- of one value that may be only seen; of several -/
def CallM (X : Cx) (f : Value) (g : D → Option D) : Prop := ∃ r, CallR X f r ∧ ∀ x d z, g d = some z → ∀ W S s (Q : VK), Rel X.K W S s → RH X.K W x d → (∀ v W', Rel X.K W' S s → Fr W S.r s W' S.r s → RV X.K W'.F W'.io v z → Q v W'.H) → r [x] W.H Q
def CallMF (X : Cx) (f : Value) (g : D → Option Cell) : Prop := ∃ r, CallR X f r ∧ ∀ x d c, g d = some c → ∀ W S s (Q : VK), Rel X.K W S s → RH X.K W x d → (∀ p o, W.H p = none → New X.K (W.wr p o) S s p c → Rel X.K (W.wr p o) S s → Fr W S.r s (W.wr p o) S.r s → Q (.ref p) (upd W.H p o)) → r [x] W.H Q
def CallMs (X : Cx) (f : Value) (g : List D → Option D) : Prop := ∃ r, CallR X f r ∧ ∀ xs ds z, g ds = some z → ∀ W S s (Q : VK), Rel X.K W S s → RVs X.K W.F W.io xs ds → (∀ v W', Rel X.K W' S s → Fr W S.r s W' S.r s → RV X.K W'.F W'.io v z → Q v W'.H) → r xs W.H Q
def eCall (g : D → Option D) (f : EF) : EF := fun S => (f S).bind fun p => (g (vw p.2 p.1)).bind fun z => some (z, p.2)
def eCallV (g : D → Option D) (i : Nat) : EF := fun S => (sees i S).bind fun d => (g d).bind fun z => some (z, S)
def cCall (g : D → Option Cell) (f : EF) : CF := fun S => (f S).bind fun p => (g (vw p.2 p.1)).bind fun z => some (z, p.2)
def cCallV (g : D → Option Cell) (i : Nat) : CF := fun S => (sees i S).bind fun d => (g d).bind fun z => some (z, S)
def eCalls (g : List D → Option D) (f : AF) : EF := fun S => (f S).bind fun p => (g p.1).bind fun z => some (z, p.2)
section
variable {X : Cx} {x y : Str} {p pos yp : Pos} {e : Expr} {es : List Expr} {id T : String} {f : EF} {fs : AF} {g : D → Option D} {gc : D → Option Cell} {gs : List D → Option D}
theorem tc_one {K : PySem.W.Frag} {r : List V → Hp → VK → Prop} {t : TE} (h : ∀ x d z, g d = some z → ∀ W S s (Q : VK), Rel K W S s → RH K W x d → (∀ v W', Rel K W' S s → Fr W S.r s W' S.r s → RV K W'.F W'.io v z → Q v W'.H) → r [x] W.H Q) (q : TEok K t f) :
    TEok K (tCB r (tCons t tNil)) (eCall g f) := by
  intro S d S' hz W s Q R k
  obtain ⟨⟨d1, S1⟩, e1, hz⟩ := bind_some hz
  obtain ⟨z, e2, hz⟩ := bind_some hz
  cases hz
  refine q S _ _ e1 W s _ R fun v W1 R1 f1 r1 => ?_
  exact h v _ _ e2 W1 S1 s _ R1 (R1.vw r1) fun v W2 R2 f2 r2 => k v W2 R2 (f1.trans f2) r2
theorem tc_oneV {K : PySem.W.Frag} {r : List V → Hp → VK → Prop} {i : Nat} (h : ∀ x d z, g d = some z → ∀ W S s (Q : VK), Rel K W S s → RH K W x d → (∀ v W', Rel K W' S s → Fr W S.r s W' S.r s → RV K W'.F W'.io v z → Q v W'.H) → r [x] W.H Q) :
    TEok K (tCB r (tCons (tVar i) tNil)) (eCallV g i) := by
  intro S d S' hz W s Q R k
  obtain ⟨d1, e1, hz⟩ := bind_some hz
  obtain ⟨z, e2, hz⟩ := bind_some hz
  cases hz
  obtain ⟨v, ev, rv⟩ := R.sees e1
  exact ⟨v, ev, h v _ _ e2 W S s _ R rv k⟩
theorem tc_new {K : PySem.W.Frag} {r : List V → Hp → VK → Prop} {t : TE} (h : ∀ x d c, gc d = some c → ∀ W S s (Q : VK), Rel K W S s → RH K W x d → (∀ p o, W.H p = none → New K (W.wr p o) S s p c → Rel K (W.wr p o) S s → Fr W S.r s (W.wr p o) S.r s → Q (.ref p) (upd W.H p o)) → r [x] W.H Q) (q : TEok K t f) :
    TFok K (tCB r (tCons t tNil)) (cCall gc f) := by
  intro S d S' hz W s Q R k
  obtain ⟨⟨d1, S1⟩, e1, hz⟩ := bind_some hz
  obtain ⟨z, e2, hz⟩ := bind_some hz
  cases hz
  refine q S _ _ e1 W s _ R fun v W1 R1 f1 r1 => ?_
  exact h v _ _ e2 W1 S1 s _ R1 (R1.vw r1) fun p o hp n R2 f2 => k p _ R2 (f1.trans f2) (f1.hp _ hp) n
theorem tc_newV {K : PySem.W.Frag} {r : List V → Hp → VK → Prop} {i : Nat} (h : ∀ x d c, gc d = some c → ∀ W S s (Q : VK), Rel K W S s → RH K W x d → (∀ p o, W.H p = none → New K (W.wr p o) S s p c → Rel K (W.wr p o) S s → Fr W S.r s (W.wr p o) S.r s → Q (.ref p) (upd W.H p o)) → r [x] W.H Q) :
    TFok K (tCB r (tCons (tVar i) tNil)) (cCallV gc i) := by
  intro S d S' hz W s Q R k
  obtain ⟨d1, e1, hz⟩ := bind_some hz
  obtain ⟨z, e2, hz⟩ := bind_some hz
  cases hz
  obtain ⟨v, ev, rv⟩ := R.sees e1
  exact ⟨v, ev, h v _ _ e2 W S s _ R rv fun p o hp n R2 f2 => k p _ R2 f2 hp n⟩
theorem tc_s {K : PySem.W.Frag} {r : List V → Hp → VK → Prop} {t : TA} (h : ∀ xs ds z, gs ds = some z → ∀ W S s (Q : VK), Rel K W S s → RVs K W.F W.io xs ds → (∀ v W', Rel K W' S s → Fr W S.r s W' S.r s → RV K W'.F W'.io v z → Q v W'.H) → r xs W.H Q) (q : TAok K t fs) :
    TEok K (tCB r t) (eCalls gs fs) := by
  intro S d S' hz W s Q R k
  obtain ⟨⟨d1, S1⟩, e1, hz⟩ := bind_some hz
  obtain ⟨z, e2, hz⟩ := bind_some hz
  cases hz
  refine q S _ _ e1 W s _ R fun v W1 R1 f1 r1 => ?_
  exact h v _ _ e2 W1 S1 s _ R1 r1 fun v W2 R2 f2 r2 => k v W2 R2 (f1.trans f2) r2
theorem me_callB (hc : CallM X (.builtin id) g) (hg : Gl X x) (hm : X.mg x = none) (hv : bootBuiltins x = some (.builtin id)) (ha : ME X e f) (hn : x ≠ "__name__" := by decide) (hdb : (x == ("__debug__" : Str)) = false := by decide)
    (hs : starEach [e] X.env = (false, eval e X.env) :: starEach [] X.env := by rfl) (hpl : (backTo pos (starEach [] X.env)).any (·.1) = false := by rfl) : ME X (.Call (.Name x p) [e] [] pos) (eCall g f) := by
  obtain ⟨r, h1, h2⟩ := hc
  obtain ⟨t, p, q⟩ := ha
  exact ⟨_, pe_callB h1 hg hm hv (pa_cons p pa_nil hs) hn hdb hs hpl, tc_one h2 q⟩
theorem me_callBV (i : Nat) (hc : CallM X (.builtin id) g) (hg : Gl X x) (hm : X.mg x = none) (hv : bootBuiltins x = some (.builtin id)) (hN : X.N[i]? = some y := by rfl) (hy : Vis X.env.scope y := by first | exact Or.inl rfl | exact Or.inr (Or.inl rfl) | exact Or.inr (Or.inr rfl))
    (hn : x ≠ "__name__" := by decide) (hdb : (x == ("__debug__" : Str)) = false := by decide) (hd : (y == ("__debug__" : Str)) = false := by decide) (hcd : (y == ("__classdict__" : Str)) = false := by decide)
    (hs : starEach [.Name y yp] X.env = (false, eval (.Name y yp) X.env) :: starEach [] X.env := by rfl) (hpl : (backTo pos (starEach [] X.env)).any (·.1) = false := by rfl) : ME X (.Call (.Name x p) [.Name y yp] [] pos) (eCallV g i) := by
  obtain ⟨r, h1, h2⟩ := hc
  exact ⟨_, pe_callB h1 hg hm hv (pa_cons (pe_var hN hy hd hcd) pa_nil hs) hn hdb hs hpl, tc_oneV h2⟩
theorem me_callT (hc : CallM X (.type T) g) (hg : Gl X x) (hm : X.mg x = none) (hv : bootBuiltins x = some (.type T)) (ha : ME X e f) (hn : x ≠ "__name__" := by decide) (hdb : (x == ("__debug__" : Str)) = false := by decide)
    (hs : starEach [e] X.env = (false, eval e X.env) :: starEach [] X.env := by rfl) (hpl : (backTo pos (starEach [] X.env)).any (·.1) = false := by rfl) : ME X (.Call (.Name x p) [e] [] pos) (eCall g f) := by
  obtain ⟨r, h1, h2⟩ := hc
  obtain ⟨t, p, q⟩ := ha
  exact ⟨_, pe_callTy h1 hg hm hv (pa_cons p pa_nil hs) hn hdb hs hpl, tc_one h2 q⟩
theorem me_callTV (i : Nat) (hc : CallM X (.type T) g) (hg : Gl X x) (hm : X.mg x = none) (hv : bootBuiltins x = some (.type T)) (hN : X.N[i]? = some y := by rfl) (hy : Vis X.env.scope y := by first | exact Or.inl rfl | exact Or.inr (Or.inl rfl) | exact Or.inr (Or.inr rfl))
    (hn : x ≠ "__name__" := by decide) (hdb : (x == ("__debug__" : Str)) = false := by decide) (hd : (y == ("__debug__" : Str)) = false := by decide) (hcd : (y == ("__classdict__" : Str)) = false := by decide)
    (hs : starEach [.Name y yp] X.env = (false, eval (.Name y yp) X.env) :: starEach [] X.env := by rfl) (hpl : (backTo pos (starEach [] X.env)).any (·.1) = false := by rfl) : ME X (.Call (.Name x p) [.Name y yp] [] pos) (eCallV g i) := by
  obtain ⟨r, h1, h2⟩ := hc
  exact ⟨_, pe_callTy h1 hg hm hv (pa_cons (pe_var hN hy hd hcd) pa_nil hs) hn hdb hs hpl, tc_oneV h2⟩
theorem mf_callT (hc : CallMF X (.type T) gc) (hg : Gl X x) (hm : X.mg x = none) (hv : bootBuiltins x = some (.type T)) (ha : ME X e f) (hn : x ≠ "__name__" := by decide) (hdb : (x == ("__debug__" : Str)) = false := by decide)
    (hs : starEach [e] X.env = (false, eval e X.env) :: starEach [] X.env := by rfl) (hpl : (backTo pos (starEach [] X.env)).any (·.1) = false := by rfl) : MF X (.Call (.Name x p) [e] [] pos) (cCall gc f) := by
  obtain ⟨r, h1, h2⟩ := hc
  obtain ⟨t, p, q⟩ := ha
  exact ⟨_, pe_callTy h1 hg hm hv (pa_cons p pa_nil hs) hn hdb hs hpl, tc_new h2 q⟩
theorem mf_callTV (i : Nat) (hc : CallMF X (.type T) gc) (hg : Gl X x) (hm : X.mg x = none) (hv : bootBuiltins x = some (.type T)) (hN : X.N[i]? = some y := by rfl) (hy : Vis X.env.scope y := by first | exact Or.inl rfl | exact Or.inr (Or.inl rfl) | exact Or.inr (Or.inr rfl))
    (hn : x ≠ "__name__" := by decide) (hdb : (x == ("__debug__" : Str)) = false := by decide) (hd : (y == ("__debug__" : Str)) = false := by decide) (hcd : (y == ("__classdict__" : Str)) = false := by decide)
    (hs : starEach [.Name y yp] X.env = (false, eval (.Name y yp) X.env) :: starEach [] X.env := by rfl) (hpl : (backTo pos (starEach [] X.env)).any (·.1) = false := by rfl) : MF X (.Call (.Name x p) [.Name y yp] [] pos) (cCallV gc i) := by
  obtain ⟨r, h1, h2⟩ := hc
  exact ⟨_, pe_callTy h1 hg hm hv (pa_cons (pe_var hN hy hd hcd) pa_nil hs) hn hdb hs hpl, tc_newV h2⟩
theorem me_callBs (hc : CallMs X (.builtin id) gs) (hg : Gl X x) (hm : X.mg x = none) (hv : bootBuiltins x = some (.builtin id)) (ha : MA X (e :: es) fs) (hn : x ≠ "__name__" := by decide) (hdb : (x == ("__debug__" : Str)) = false := by decide)
    (hs : starEach (e :: es) X.env = (false, eval e X.env) :: starEach es X.env := by rfl) (hpl : (backTo pos (starEach es X.env)).any (·.1) = false := by rfl) : ME X (.Call (.Name x p) (e :: es) [] pos) (eCalls gs fs) := by
  obtain ⟨r, h1, h2⟩ := hc
  obtain ⟨t, p, q⟩ := ha
  exact ⟨_, pe_callB h1 hg hm hv p hn hdb hs hpl, tc_s h2 q⟩
end

/-! which -/
def gLen : D → Option D
  | .str z => if z.length ≤ LIM then some (.int z.length) else none
  | .lst ds | .tup ds | .sc ds => some (.int ds.length)
  | _ => none
def gInt : D → Option D
  | .int i => some (.int i)
  | .bl k => some (.int (if k then 1 else 0))
  | _ => none
def gAbs : D → Option D
  | .int i => some (.int (if i < 0 then -i else i))
  | _ => none
noncomputable def gStr : D → Option D
  | .int i => @ite (Option D) (-BDIV < i ∧ i < BDIV) (Classical.propDecidable _) (some (.str (toString i))) none
  | _ => none
theorem gStr_pos {i : Int} (h : -BDIV < i ∧ i < BDIV) : gStr (.int i) = some (.str (Str.ofString (toString i))) := by
  show @ite (Option D) (-BDIV < i ∧ i < BDIV) (Classical.propDecidable _) (some (.str (toString i))) none = _
  rw [if_pos h]
def gMax2 : List D → Option D
  | [.int i, .int j] => some (.int (if j > i then j else i))
  | _ => none
def gMin2 : List D → Option D
  | [.int i, .int j] => some (.int (if j < i then j else i))
  | _ => none
def boolsD : List D → Option (List Bool)
  | [] => some []
  | .bl b :: r => (boolsD r).bind fun q => some (b :: q)
  | _ => none
def intsD : List D → Option (List Int)
  | [] => some []
  | .int b :: r => (intsD r).bind fun q => some (b :: q)
  | _ => none
def gAll : D → Option D
  | .lst ds => (boolsD ds).bind fun q => some (.bl (q.all id))
  | _ => none
def gAny : D → Option D
  | .lst ds => (boolsD ds).bind fun q => some (.bl (q.any id))
  | _ => none
def gSum : D → Option D
  | .lst ds => (intsD ds).bind fun q => some (.int q.sum)
  | _ => none
def gList : D → Option Cell
  | .lst ds | .tup ds | .sc ds => some (.lst ds)
  | _ => none
def gTuple : D → Option D
  | .lst ds | .tup ds | .sc ds => some (.tup ds)
  | _ => none
def tyName : D → Option String
  | .non => some "NoneType" | .bl _ => some "bool" | .int _ => some "int" | .str _ => some "str"
  | .tup _ => some "tuple" | .lst _ => some "list" | .dct _ => some "dict"
  | _ => none
def gIsi (T : String) (d : D) : Option D := (tyName d).bind fun n => (kitB n T).bind fun b => some (.bl b)
section
variable {X : Cx}
theorem boolsRv {K : PySem.W.Frag} {F : Hp} {io : List Addr} : ∀ {vs : List V} {ds : List D} {bs : List Bool}, RVs K F io vs ds → boolsD ds = some bs → vs = bs.map V.bl
  | _, _, _, .nil, e => by cases e; rfl
  | _, _, _, @RVs.cons _ _ _ v vs d ds h t, e => by
    cases d with
    | bl b =>
      have e : (boolsD ds).bind (fun q => some (b :: q)) = some _ := e
      obtain ⟨q, e1, e⟩ := bind_some e
      cases e
      rw [h.bl_inv, boolsRv t e1]; rfl
    | _ => cases e
theorem intsRv {K : PySem.W.Frag} {F : Hp} {io : List Addr} : ∀ {vs : List V} {ds : List D} {bs : List Int}, RVs K F io vs ds → intsD ds = some bs → vs = bs.map V.int
  | _, _, _, .nil, e => by cases e; rfl
  | _, _, _, @RVs.cons _ _ _ v vs d ds h t, e => by
    cases d with
    | int b =>
      have e : (intsD ds).bind (fun q => some (b :: q)) = some _ := e
      obtain ⟨q, e1, e⟩ := bind_some e
      cases e
      rw [h.int_inv, intsRv t e1]; rfl
    | _ => cases e
theorem cLen : CallM X (.builtin "len") gLen := by
  refine ⟨_, call_len, fun x d z hz W S s Q R rx k => ?_⟩
  unfold gLen at hz
  split at hz
  · split at hz
    · rename_i c; cases hz; cases rhS rx; exact ⟨_, _, rfl, ⟨Nat.le_trans c lim_line, rfl⟩, k _ W R .refl (.int _)⟩
    · cases hz
  · cases hz
    obtain ⟨a, vs, rfl, h1, h2⟩ := rx
    exact ⟨_, _, rfl, .inl ⟨vs, .of h1, rfl⟩, by rw [h2.length]; exact k _ W R .refl (.int _)⟩
  · cases hz
    obtain ⟨a, vs, rfl, h1, h2⟩ := RV.tup_inv rx
    exact ⟨_, _, rfl, .inr ⟨vs, sqT_mono R.sub h1, rfl⟩, by rw [h2.length]; exact k _ W R .refl (.int _)⟩
  · cases hz
    obtain ⟨a, vs, rfl, h1, h2⟩ := RV.sc_inv rx
    exact ⟨_, _, rfl, .inl ⟨vs, sqL_mono R.sub h1, rfl⟩, by rw [h2.length]; exact k _ W R .refl (.int _)⟩
  · cases hz
theorem cInt : CallM X (.type "int") gInt := by
  refine ⟨_, call_int1, fun x d z hz W S s Q R rx k => ?_⟩
  unfold gInt at hz
  split at hz
  · cases hz; cases rhI rx; exact .inl ⟨_, rfl, k _ W R .refl (.int _)⟩
  · cases hz; cases RV.bl_inv rx; exact .inr ⟨_, rfl, k _ W R .refl (.int _)⟩
  · cases hz
theorem cAbs : CallM X (.builtin "abs") gAbs := by
  refine ⟨_, call_abs, fun x d z hz W S s Q R rx k => ?_⟩
  unfold gAbs at hz
  split at hz
  · cases hz; cases rhI rx; exact ⟨_, rfl, k _ W R .refl (.int _)⟩
  · cases hz
theorem cStr : CallM X (.type "str") gStr := by
  refine ⟨_, call_str_int, fun x d z hz W S s Q R rx k => ?_⟩
  unfold gStr at hz
  split at hz
  · split at hz
    · rename_i c
      cases hz
      cases rhI rx
      refine ⟨_, rfl, ?_, k _ W R .refl (.str _)⟩
      rename_i i
      have e : i.natAbs < 10 ^ 50 := by unfold BDIV at c; omega
      have e2 : i.natAbs < 2 ^ 200 := Nat.lt_trans e (by decide)
      have := PySem.Flt.log2_lt_of (k := 200) (by decide) e2
      omega
    · cases hz
  · cases hz
theorem cMax2 (hc : X.calm = true) : CallMs X (.builtin "max") gMax2 := by
  refine ⟨_, call_max2 hc, fun xs ds z hz W S s Q R rx k => ?_⟩
  unfold gMax2 at hz
  split at hz
  · cases hz
    cases rx with
    | cons h t => cases t with
      | cons h' t' => cases t'; cases h.int_inv; cases h'.int_inv; exact ⟨_, _, rfl, k _ W R .refl (.int _)⟩
  · cases hz
theorem cMin2 (hc : X.calm = true) : CallMs X (.builtin "min") gMin2 := by
  refine ⟨_, call_min2 hc, fun xs ds z hz W S s Q R rx k => ?_⟩
  unfold gMin2 at hz
  split at hz
  · cases hz
    cases rx with
    | cons h t => cases t with
      | cons h' t' => cases t'; cases h.int_inv; cases h'.int_inv; exact ⟨_, _, rfl, k _ W R .refl (.int _)⟩
  · cases hz
theorem cAll (hc : X.calm = true) : CallM X (.builtin "all") gAll := by
  refine ⟨_, cr_all hc, fun x d z hz W S s Q R rx k => ?_⟩
  unfold gAll at hz
  split at hz
  · obtain ⟨q, e1, hz⟩ := bind_some hz
    cases hz
    obtain ⟨a, vs, rfl, h1, h2⟩ := rx
    exact ⟨a, q, rfl, by rw [← boolsRv h2 e1]; exact .of h1, k _ W R .refl (.bl _)⟩
  · cases hz
theorem cAny (hc : X.calm = true) : CallM X (.builtin "any") gAny := by
  refine ⟨_, cr_any hc, fun x d z hz W S s Q R rx k => ?_⟩
  unfold gAny at hz
  split at hz
  · obtain ⟨q, e1, hz⟩ := bind_some hz
    cases hz
    obtain ⟨a, vs, rfl, h1, h2⟩ := rx
    exact ⟨a, q, rfl, by rw [← boolsRv h2 e1]; exact .of h1, k _ W R .refl (.bl _)⟩
  · cases hz
theorem cSum (hc : X.calm = true) : CallM X (.builtin "sum") gSum := by
  refine ⟨_, cr_sum hc, fun x d z hz W S s Q R rx k => ?_⟩
  unfold gSum at hz
  split at hz
  · obtain ⟨q, e1, hz⟩ := bind_some hz
    cases hz
    obtain ⟨a, vs, rfl, h1, h2⟩ := rx
    exact ⟨a, q, rfl, by rw [← intsRv h2 e1]; exact .of h1, k _ W R .refl (.int _)⟩
  · cases hz
theorem cList : CallMF X (.type "list") gList := by
  refine ⟨_, call_list_of, fun x d c hz W S s Q R rx k => ?_⟩
  have fin : ∀ {vs : List V} {ds : List D}, RVs X.K W.F W.io vs ds → ∀ l, W.H l = none → (∀ p o, W.H p = none → New X.K (W.wr p o) S s p (.lst ds) → Rel X.K (W.wr p o) S s → Fr W S.r s (W.wr p o) S.r s → Q (.ref p) (upd W.H p o)) → Q (.ref l) (upd W.H l (.lst vs)) := fun {vs ds} h l hl k => by
    obtain ⟨R2, f2, n⟩ := R.newLst hl h
    exact k l _ hl n R2 f2
  unfold gList at hz
  split at hz
  · cases hz
    obtain ⟨a, vs, rfl, h1, h2⟩ := rx
    exact ⟨a, vs, rfl, .inl (.of h1), fun l hl => fin h2 l hl k⟩
  · cases hz
    obtain ⟨a, vs, rfl, h1, h2⟩ := RV.tup_inv rx
    exact ⟨a, vs, rfl, .inr (sqT_mono R.sub h1), fun l hl => fin h2 l hl k⟩
  · cases hz
    obtain ⟨a, vs, rfl, h1, h2⟩ := RV.sc_inv rx
    exact ⟨a, vs, rfl, .inl (sqL_mono R.sub h1), fun l hl => fin h2 l hl k⟩
  · cases hz
theorem cTuple : CallM X (.type "tuple") gTuple := by
  refine ⟨_, call_tuple_of, fun x d c hz W S s Q R rx k => ?_⟩
  have fin : ∀ {vs : List V} {ds : List D}, RVs X.K W.F W.io vs ds → c = .tup ds → ∀ l, W.H l = none → Q (.ref l) (upd W.H l (.tup vs)) := fun {vs ds} h e l hl => by
    subst e
    obtain ⟨R2, f2⟩ := R.al (o := .tup vs) hl
    exact k _ _ R2 f2 (.tup (.of upd_same) (h.up f2))
  unfold gTuple at hz
  split at hz
  · cases hz
    obtain ⟨a, vs, rfl, h1, h2⟩ := rx
    exact ⟨a, vs, rfl, .inl ⟨.of h1, fun l hl => fin h2 rfl l hl⟩⟩
  · cases hz
    obtain ⟨a, vs, rfl, h1, h2⟩ := RV.tup_inv rx
    exact ⟨a, vs, rfl, .inr ⟨sqT_mono R.sub h1, k _ W R .refl rx⟩⟩
  · cases hz
    obtain ⟨a, vs, rfl, h1, h2⟩ := RV.sc_inv rx
    exact ⟨a, vs, rfl, .inl ⟨sqL_mono R.sub h1, fun l hl => fin h2 rfl l hl⟩⟩
  · cases hz
theorem tyx {K : PySem.W.Frag} {W : Wd} {S : Ms} {s : L2.St} (R : Rel K W S s) {v : V} {d : D} {n : String} (h : RV K W.F W.io v d) (e : tyName d = some n) : TyX K W.H v (.type n) := by
  cases d with
  | non => cases e; cases h.non_inv; exact .base .non
  | bl b => cases e; cases h.bl_inv; exact .base (.bl _)
  | int b => cases e; cases h.int_inv; exact .base (.int _)
  | str b => cases e; cases h.str_inv; exact .base (.str _)
  | tup ds =>
    cases e
    obtain ⟨a, vs, rfl, h1, h2⟩ := h.tup_inv
    rcases sqT_mono R.sub h1 with (h1 | ⟨o, h1⟩) | ⟨o, its, k, e1, e2, _⟩
    · exact .base (.tup h1)
    · exact .fTuple h1
    · exact .kTuple e1 e2
  | lst ds => cases e; obtain ⟨a, vs, rfl, h1, h2⟩ := h.lst_inv; exact .base (.lst (R.sub _ _ h1))
  | dct ds => cases e; obtain ⟨a, vs, rfl, h1, h2⟩ := h.dct_inv; exact .base (.dK (R.sub _ _ h1))
  | sc ds => cases e
  | ref k => cases e
/-- isinstance(e, T), T a built-in class -/
def eIsi (T : String) (f : EF) : EF := fun S => (f S).bind fun p => (gIsi T p.1).bind fun z => some (z, p.2)
theorem me_isi {e : Expr} {y : Str} {T : String} {f : EF} {p pos yp : Pos} (hg : Gl X "isinstance") (hm : X.mg "isinstance" = none) (hgy : Gl X y) (hmy : X.mg y = none) (hv : bootBuiltins y = some (.type T)) (ha : ME X e f)
    (hb : bootBuiltins "isinstance" = some (.builtin "isinstance") := by decide +kernel) (hny : y ≠ "__name__" := by decide) (hdy : (y == ("__debug__" : Str)) = false := by decide) (hn : ("isinstance" : Str) ≠ "__name__" := by decide)
    (hs : starEach [e, .Name y yp] X.env = (false, eval e X.env) :: starEach [.Name y yp] X.env := by rfl) (hpl : (backTo pos (starEach [.Name y yp] X.env)).any (·.1) = false := by rfl)
    (hs2 : starEach [.Name y yp] X.env = (false, eval (.Name y yp) X.env) :: starEach [] X.env := by rfl) : ME X (.Call (.Name "isinstance" p) [e, .Name y yp] [] pos) (eIsi T f) := by
  obtain ⟨t, p, q⟩ := ha
  refine ⟨_, pe_callB call_isi hg hm hb (pa_cons p (pa_cons (pe_bltn (v := .ty T) hgy hmy hv rfl hny hdy) pa_nil hs2) hs) hn (by decide) hs hpl, fun S d S' hz W s Q R k => ?_⟩
  obtain ⟨⟨d1, S1⟩, e1, hz⟩ := bind_some hz
  obtain ⟨z, e2, hz⟩ := bind_some hz
  cases hz
  refine q S _ _ e1 W s _ R fun v W1 R1 f1 r1 => ?_
  obtain ⟨n, e3, e2⟩ := bind_some e2
  obtain ⟨b, e4, e2⟩ := bind_some e2
  cases e2
  exact ⟨v, .ty T, .type n, .type T, b, rfl, .ty T, tyx R1 r1 e3, kit_ty e4, k _ W1 R1 f1 (.bl _)⟩
end
end M

/-! M3: statements, targets, loops, defs and their calls. -/
namespace M
open PySem PySem.Spec L2

def flQ (K : PySem.W.Frag) (D : Ends) (s : L2.St) (W : Wd) : Fl → Prop
  | .nx => D.nx s W.H
  | .bk => D.bk s W.H
  | .ct => D.ct s W.H
  | .rt d => ∀ v, RV K W.F W.io v d → D.rt v W.H
def TSok (K : PySem.W.Frag) (t : TS) (f : SF) : Prop := ∀ S fl S', f S = some (fl, S') → ∀ W s (D : Ends), Rel K W S s → (∀ W' s', Rel K W' S' s' → Fr W S.r s W' S'.r s' → flQ K D s' W' fl) → t D s W.H
def TGok (K : PySem.W.Frag) (t : TG) (g : GF) : Prop := ∀ d S S', g d S = some S' → ∀ W s v (Q : L2.St → Hp → Prop), Rel K W S s → RV K W.F W.io v d → (∀ W' s', Rel K W' S' s' → Fr W S.r s W' S'.r s' → Q s' W'.H) → t v s W.H Q
def TGsok (K : PySem.W.Frag) (t : TGs) (g : List D → Ms → Option Ms) : Prop := ∀ d S S', g d S = some S' → ∀ W s v (Q : L2.St → Hp → Prop), Rel K W S s → RVs K W.F W.io v d → (∀ W' s', Rel K W' S' s' → Fr W S.r s W' S'.r s' → Q s' W'.H) → t v s W.H Q
def MS (X : Cx) (st : Stmt) (f : SF) : Prop := ∃ t, PS X st t ∧ TSok X.K t f
def MSs (X : Cx) (st : List Stmt) (f : SF) : Prop := ∃ t, PSs X st t ∧ TSok X.K t f
def MG (X : Cx) (tg : Expr) (g : GF) : Prop := ∃ t, PG X tg t ∧ TGok X.K t g
def MGs (X : Cx) (tg : List Expr) (g : List D → Ms → Option Ms) : Prop := ∃ t, PGs X tg t ∧ TGsok X.K t g

/-! ### blocks and small statements -/
def sNil : SF := fun S => some (.nx, S)
def sSeq (f g : SF) : SF := fun S => (f S).bind fun p => match p.1 with
  | .nx => g p.2
  | fl => some (fl, p.2)
def sBk : SF := fun S => some (.bk, S)
def sCt : SF := fun S => some (.ct, S)
def sExpr (f : EF) : SF := fun S => (f S).bind fun p => some (.nx, p.2)
def sRet (f : EF) : SF := fun S => (f S).bind fun p => some (.rt p.1, p.2)
def sRetN : SF := fun S => some (.rt .non, S)
def sIf (c : BF) (f g : SF) : SF := fun S => (c S).bind fun p => if p.1 then f p.2 else g p.2
section
variable {X : Cx} {st : Stmt} {rest a b : List Stmt} {f g : SF} {e c : Expr} {fe : EF} {fc : BF} {pos : Pos}
theorem mss_nil : MSs X [] sNil := ⟨_, pss_nil, fun S fl S' h W s D R k => by cases h; exact k W s R .refl⟩
theorem mss_cons (h1 : MS X st f) (h2 : MSs X rest g) : MSs X (st :: rest) (sSeq f g) := by
  obtain ⟨t, p, q⟩ := h1
  obtain ⟨u, p', q'⟩ := h2
  refine ⟨_, pss_cons p p', fun S fl S' h W s D R k => ?_⟩
  obtain ⟨⟨fl1, S1⟩, e1, h⟩ := bind_some h
  refine q S fl1 S1 e1 W s { D with nx := u D } R fun W1 s1 R1 f1 => ?_
  cases fl1 with
  | nx => exact q' S1 fl S' h W1 s1 D R1 fun W2 s2 R2 f2 => k W2 s2 R2 (f1.trans f2)
  | bk => cases h; exact k W1 s1 R1 f1
  | ct => cases h; exact k W1 s1 R1 f1
  | rt d => cases h; exact k W1 s1 R1 f1
theorem mss_one (h1 : MS X st f) : MSs X [st] f := by
  obtain ⟨t, p, q⟩ := h1
  exact ⟨_, pss_one p, q⟩
theorem ms_pass : MS X (.Pass pos) sNil := ⟨_, ps_pass, fun S fl S' h W s D R k => by cases h; exact k W s R .refl⟩
theorem ms_break : MS X (.Break pos) sBk := ⟨_, ps_break, fun S fl S' h W s D R k => by cases h; exact k W s R .refl⟩
theorem ms_cont : MS X (.Continue pos) sCt := ⟨_, ps_continue, fun S fl S' h W s D R k => by cases h; exact k W s R .refl⟩
theorem ms_expr (he : ME X e fe) (hs : swapsWith e none pos.line X.env = pure false := by rfl) : MS X (.Expr e pos) (sExpr fe) := by
  obtain ⟨t, p, q⟩ := he
  refine ⟨_, ps_expr p hs, fun S fl S' h W s D R k => ?_⟩
  obtain ⟨⟨d1, S1⟩, e1, h⟩ := bind_some h
  cases h
  exact q S _ _ e1 W s _ R fun v W1 R1 f1 r1 => k W1 s R1 f1
theorem ms_ret (he : ME X e fe) : MS X (.Return (some e) pos) (sRet fe) := by
  obtain ⟨t, p, q⟩ := he
  refine ⟨_, ps_ret p, fun S fl S' h W s D R k => ?_⟩
  obtain ⟨⟨d1, S1⟩, e1, h⟩ := bind_some h
  cases h
  exact q S _ _ e1 W s _ R fun v W1 R1 f1 r1 => k W1 s R1 f1 v r1
theorem ms_retN : MS X (.Return none pos) sRetN := ⟨_, ps_retN, fun S fl S' h W s D R k => by cases h; exact k W s R .refl .non .non⟩
theorem ms_if (hc : MT X c fc) (ha : MSs X a f) (hb : MSs X b g) : MS X (.If c a b pos) (sIf fc f g) := by
  obtain ⟨t, p, q⟩ := hc
  obtain ⟨ta, pa, qa⟩ := ha
  obtain ⟨tb, pb, qb⟩ := hb
  refine ⟨_, ps_if p pa pb, fun S fl S' h W s D R k => ?_⟩
  obtain ⟨⟨c, S1⟩, e1, h⟩ := bind_some h
  refine q S _ _ e1 W s _ R fun W1 R1 f1 => ?_
  cases c with
  | true => exact qa S1 _ _ h W1 s D R1 fun W2 s2 R2 f2 => k W2 s2 R2 (f1.trans f2)
  | false => exact qb S1 _ _ h W1 s D R1 fun W2 s2 R2 f2 => k W2 s2 R2 (f1.trans f2)
end

/-! ### targets, assignments -/
def gNm (i : Nat) : GF := fun d S => some { S with r := S.r.set i (.val d) }
def gsNil : List D → Ms → Option Ms := fun ds S => if ds.isEmpty then some S else none
def gsCons (g : GF) (h : List D → Ms → Option Ms) : List D → Ms → Option Ms := fun ds S => match ds with
  | d :: r => (g d S).bind fun S1 => h r S1
  | [] => none
def gTp (n : Nat) (g : List D → Ms → Option Ms) : GF := fun d S => match d with
  | .tup ds => if ds.length = n then g ds S else none
  | _ => none
/-- the list in slot i is given another form -/
def modL (i : Nat) (h : List D → Option (List D)) (S : Ms) : Option Ms := match S.r[i]? with
  | some (.own (.lst ds)) => (h ds).bind fun es => some { S with r := S.r.set i (.own (.lst es)) }
  | some (.val (.ref k)) => match S.m[k]? with
    | some (.lst ds) => (h ds).bind fun es => some { S with m := S.m.set k (.lst es) }
    | _ => none
  | _ => none
def setAt (d e : D) (ds : List D) : Option (List D) := match e with
  | .int k => (ixN ds.length k).bind fun j => some (ds.set j d)
  | _ => none
def gSubV (i : Nat) (f : EF) : GF := fun d S => if held i S then (f S).bind fun p => modL i (setAt d p.1) p.2 else none
def isL (i : Nat) (S : Ms) : Bool := match sees i S with
  | some (.lst _) => true
  | _ => false
def eApp (i : Nat) (f : EF) : EF := fun S => if isL i S then (f S).bind fun p => (modL i (fun ds => if ds.length < LIM then some (ds ++ [p.1]) else none) p.2).bind fun S' => some (.non, S') else none
def eExt (i : Nat) (f : EF) : EF := fun S => if isL i S then (f S).bind fun p => match p.1 with
  | .lst es => (modL i (fun ds => if ds.length + es.length < LIM then some (ds ++ es) else none) p.2).bind fun S' => some (.non, S')
  | _ => none else none
def eRevs (i : Nat) : EF := fun S => (modL i (fun ds => some ds.reverse) S).bind fun S' => some (.non, S')
def ePop (i : Nat) : EF := fun S => match sees i S with
  | some (.lst ds) => match ds[ds.length - 1]? with
    | some d => (modL i (fun ds => some ds.dropLast) S).bind fun S' => some (d, S')
    | none => none
  | _ => none
def sAsg (f : EF) (g : GF) : SF := fun S => (f S).bind fun p => (g p.1 p.2).bind fun S' => some (.nx, S')
def sOwn (i : Nat) (c : CF) : SF := fun S => (c S).bind fun p => some (.nx, { p.2 with r := p.2.r.set i (.own p.1) })
def sCell (i : Nat) (c : CF) : SF := fun S => (c S).bind fun p => some (.nx, { r := p.2.r.set i (.val (.ref p.2.m.length)), m := p.2.m ++ [p.1] })
def sAug (i : Nat) (op : Int → Int → Int) (f : EF) : SF := fun S => match S.r[i]? with
  | some (.val (.int a)) => (f S).bind fun p => match p.1 with
    | .int b => some (.nx, { p.2 with r := p.2.r.set i (.val (.int (op a b))) })
    | _ => none
  | _ => none

section
variable {X : Cx} {pos : Pos} {x : Str} {xp : Pos} {e tg : Expr} {es : List Expr} {fe : EF} {fc : CF} {g : GF} {gs : List D → Ms → Option Ms}
theorem tg_name {K : PySem.W.Frag} {i : Nat} : TGok K (gName i) (gNm i) := by
  intro d S S' h W s v Q R r k
  cases h
  obtain ⟨R1, f1⟩ := R.setVal (i := i) r
  exact k W _ R1 f1
theorem mg_name (i : Nat) (hN : X.N.Nodup) (hi : X.N[i]? = some x := by rfl) (hx : Loc X.env.scope x := by first | exact Or.inl rfl | exact Or.inr rfl) (hf : X.fn x = true ∨ X.env.scope.names.lookup x = some .local := by first | exact .inl rfl | exact .inr rfl) : MG X (.Name x xp) (gNm i) :=
  ⟨_, pg_name hN hi hx hf, tg_name⟩
theorem mgs_nil : MGs X [] gsNil := ⟨_, pgs_nil, fun d S S' h W s v Q R r k => by
  unfold gsNil at h
  split at h
  · rename_i c
    cases h
    cases r with
    | nil => exact ⟨rfl, k W s R .refl⟩
    | cons _ _ => cases c
  · cases h⟩
theorem mgs_cons (h1 : MG X e g) (h2 : MGs X es gs) (hs : (assignEach (e :: es) X.env).map (·.2) = assign e X.env :: (assignEach es X.env).map (·.2) := by rfl) : MGs X (e :: es) (gsCons g gs) := by
  obtain ⟨t, p, q⟩ := h1
  obtain ⟨u, p', q'⟩ := h2
  refine ⟨_, pgs_cons p p' hs, fun d S S' h W s v Q R r k => ?_⟩
  unfold gsCons at h
  cases r with
  | nil => cases h
  | @cons v vs d ds r1 r2 =>
    obtain ⟨S1, e1, h⟩ := bind_some h
    exact ⟨v, vs, rfl, q d S S1 e1 W s v _ R r1 fun W1 s1 R1 f1 => q' ds S1 S' h W1 s1 vs _ R1 (r2.up f1) fun W2 s2 R2 f2 => k W2 s2 R2 (f1.trans f2)⟩
theorem mg_tup {k n : Nat} (hc : X.calm = true) (h : MGs X es gs) (hn : (assignEach es X.env).length = n := by rfl) (hst : (assignEach es X.env).findIdx? (·.1) = none := by rfl) : MG X (.Tuple es k pos) (gTp n gs) := by
  obtain ⟨t, p, q⟩ := h
  refine ⟨_, pg_tup hc p hn hst, fun d S S' h W s v Q R r k => ?_⟩
  unfold gTp at h
  split at h
  · split at h
    · rename_i c
      obtain ⟨a, vs, rfl, h1, h2⟩ := r.tup_inv
      exact ⟨a, vs, rfl, sqT_mono R.sub h1, by rw [h2.length]; exact c, q _ S S' h W s vs Q R h2 k⟩
    · cases h
  · cases h
theorem modL_ok {K : PySem.W.Frag} {W : Wd} {S S' : Ms} {s : L2.St} (R : Rel K W S s) {i : Nat} {h : List D → Option (List D)} (e : modL i h S = some S') : ∃ a ds es vs, s[i]? = some (some (.ref a)) ∧ sees i S = some (.lst ds) ∧ h ds = some es ∧ W.H a = some (.lst vs) ∧ RVs K W.F W.io vs ds ∧
    ∀ ws, RVs K W.F W.io ws es → Rel K (W.wr a (.lst ws)) S' s ∧ Fr W S.r s (W.wr a (.lst ws)) S'.r s := by
  unfold modL at e
  split at e
  · rename_i ds q
    obtain ⟨es, e1, e⟩ := bind_some e
    cases e
    obtain ⟨a, e2, n1, n2, vs, h1, h2⟩ := R.owns i _ q
    refine ⟨a, ds, es, vs, e2, by unfold sees; rw [q], e1, h1, h2, fun ws r => ?_⟩
    exact R.wrOwn q e2 (c' := .lst es) ⟨ws, upd_same, r⟩
  · rename_i k q
    split at e
    · rename_i ds q2
      obtain ⟨es, e1, e⟩ := bind_some e
      cases e
      obtain ⟨v, e2, r⟩ := R.slots i _ q
      obtain ⟨a, rfl, e3⟩ := r.ref_inv
      obtain ⟨vs, h1, h2⟩ := R.cells k _ a q2 e3
      refine ⟨a, ds, es, vs, e2, by unfold sees; rw [q]; show some (vw S (.ref k)) = _; unfold vw; simp only [q2], e1, h1, h2, fun ws r => ?_⟩
      exact R.wrCell e3 (c' := .lst es) ⟨ws, upd_same, r⟩
    · cases e
  · cases e
theorem mg_sub (i : Nat) {ie : Expr} {fi : EF} (hi : ME X ie fi) (hN : X.N[i]? = some x := by rfl) (hv : Vis X.env.scope x := by first | exact Or.inl rfl | exact Or.inr (Or.inl rfl) | exact Or.inr (Or.inr rfl))
    (hd : (x == ("__debug__" : Str)) = false := by decide) (hcd : (x == ("__classdict__" : Str)) = false := by decide)
    (ha : ∀ v, assign (.Subscript (.Name x xp) ie pos) X.env v = (do
      let ov ← holding [v] (eval (.Name x xp) X.env)
      let iv ← holding [v, ov] (eval ie X.env)
      standAt pos
      holding [v, ov, iv] (setItem ov iv v)
      release [v, ov, iv] []) := by intro _; rfl) : MG X (.Subscript (.Name x xp) ie pos) (gSubV i fi) := by
  obtain ⟨t, p, q⟩ := hi
  refine ⟨_, pg_sub (pe_var hN hv hd hcd) p set_list ha, fun d S S' h W s v Q R r k => ?_⟩
  unfold gSubV at h
  split at h
  · rename_i hh
    obtain ⟨⟨d1, S1⟩, e1, h⟩ := bind_some h
    obtain ⟨u, eu⟩ := R.held hh
    refine ⟨u, eu, ?_⟩
    refine q S _ _ e1 W s _ R fun y W1 R1 f1 r1 => ?_
    obtain ⟨a, ds, es, vs, e2, _, e3, h1, h2, kk⟩ := modL_ok R1 h
    rw [eu] at e2; cases e2
    unfold setAt at e3
    simp only at e3
    split at e3
    · obtain ⟨j, e4, e3⟩ := bind_some e3
      cases e3
      obtain ⟨R2, f2⟩ := kk _ (h2.set j (r.up f1))
      exact ⟨a, vs, _, j, rfl, r1.int_inv, h1, by rw [h2.length]; exact e4, k _ _ R2 (f1.trans f2)⟩
    · cases e3
  · cases h
theorem isL_ok {K : PySem.W.Frag} {W : Wd} {S : Ms} {s : L2.St} (R : Rel K W S s) {i : Nat} (h : isL i S = true) : ∃ v, s[i]? = some (some v) ∧ tyV K "list" v W.H := by
  unfold isL at h
  split at h
  · rename_i ds e
    obtain ⟨v, e1, a, vs, rfl, h1, h2⟩ := R.sees e
    exact ⟨_, e1, .inl ⟨rfl, vs, .of h1⟩⟩
  · cases h
theorem me_app (i : Nat) {apos : Pos} (he : ME X e fe) (hN : X.N[i]? = some x := by rfl) (hv : Vis X.env.scope x := by first | exact Or.inl rfl | exact Or.inr (Or.inl rfl) | exact Or.inr (Or.inr rfl))
    (hd : (x == ("__debug__" : Str)) = false := by decide) (hcd : (x == ("__classdict__" : Str)) = false := by decide)
    (hbase : attributeBase (.Name x xp) "append" X.env (eval (.Name x xp) X.env) = eval (.Name x xp) X.env := by rfl)
    (hfew : ((backTo pos (starEach [e] X.env)).all (fun x => !x.1) && (backToKw pos (keywordEach [] X.env)).all (fun x => x.1.isSome)
      && decide ([e].length + ([] : List Keyword).length + (if ([] : List Keyword).isEmpty then 0 else 1) < 30)) = true := by rfl)
    (hline : (apos.endLine == pos.line) = true := by rfl) (hs : starEach [e] X.env = (false, eval e X.env) :: starEach [] X.env := by rfl) (hplain : (backTo pos (starEach [] X.env)).any (·.1) = false := by rfl) :
    ME X (.Call (.Attribute (.Name x xp) "append" apos) [e] [] pos) (eApp i fe) := by
  obtain ⟨t, p, q⟩ := he
  refine ⟨_, pe_bm PySem.F.plainAttrs_list PySem.F.slot_list_append PySem.F.type_list_append mt_append (pe_var hN hv hd hcd) (pa_cons p pa_nil hs) hbase hfew hline hs hplain, fun S d S' h W s Q R k => ?_⟩
  unfold eApp at h
  split at h
  · rename_i hh
    obtain ⟨⟨d1, S1⟩, e1, h⟩ := bind_some h
    obtain ⟨S2, e2, h⟩ := bind_some h
    cases h
    obtain ⟨u, eu, ty⟩ := isL_ok R hh
    refine ⟨u, eu, ty, ?_⟩
    refine q S _ _ e1 W s _ R fun y W1 R1 f1 r1 => ?_
    obtain ⟨a, ds, es, vs, e3, _, e4, h1, h2, kk⟩ := modL_ok R1 e2
    rw [eu] at e3; cases e3
    split at e4
    · rename_i c
      cases e4
      obtain ⟨R2, f2⟩ := kk _ (h2.append (.cons r1 .nil))
      exact ⟨a, vs, y, rfl, rfl, h1, by rw [h2.length]; exact Nat.lt_of_lt_of_le c lim_line, k _ _ R2 (f1.trans f2) .non⟩
    · cases e4
  · cases h
theorem me_ext (i : Nat) {apos : Pos} (he : ME X e fe) (hN : X.N[i]? = some x := by rfl) (hv : Vis X.env.scope x := by first | exact Or.inl rfl | exact Or.inr (Or.inl rfl) | exact Or.inr (Or.inr rfl))
    (hd : (x == ("__debug__" : Str)) = false := by decide) (hcd : (x == ("__classdict__" : Str)) = false := by decide)
    (hbase : attributeBase (.Name x xp) "extend" X.env (eval (.Name x xp) X.env) = eval (.Name x xp) X.env := by rfl)
    (hfew : ((backTo pos (starEach [e] X.env)).all (fun x => !x.1) && (backToKw pos (keywordEach [] X.env)).all (fun x => x.1.isSome)
      && decide ([e].length + ([] : List Keyword).length + (if ([] : List Keyword).isEmpty then 0 else 1) < 30)) = true := by rfl)
    (hline : (apos.endLine == pos.line) = true := by rfl) (hs : starEach [e] X.env = (false, eval e X.env) :: starEach [] X.env := by rfl) (hplain : (backTo pos (starEach [] X.env)).any (·.1) = false := by rfl) :
    ME X (.Call (.Attribute (.Name x xp) "extend" apos) [e] [] pos) (eExt i fe) := by
  obtain ⟨t, p, q⟩ := he
  refine ⟨_, pe_bm PySem.F.plainAttrs_list PySem.F.slot_list_extend PySem.F.type_list_extend mt_extend (pe_var hN hv hd hcd) (pa_cons p pa_nil hs) hbase hfew hline hs hplain, fun S d S' h W s Q R k => ?_⟩
  unfold eExt at h
  split at h
  · rename_i hh
    obtain ⟨⟨d1, S1⟩, e1, h⟩ := bind_some h
    simp only at h
    split at h
    · obtain ⟨S2, e2, h⟩ := bind_some h
      cases h
      obtain ⟨u, eu, ty⟩ := isL_ok R hh
      refine ⟨u, eu, ty, ?_⟩
      refine q S _ _ e1 W s _ R fun y W1 R1 f1 r1 => ?_
      obtain ⟨b, zs, rfl, g1, g2⟩ := r1.lst_inv
      obtain ⟨a, ds, es, vs, e3, _, e4, h1, h2, kk⟩ := modL_ok R1 e2
      rw [eu] at e3; cases e3
      split at e4
      · rename_i c
        cases e4
        obtain ⟨R2, f2⟩ := kk _ (h2.append g2)
        exact ⟨a, b, vs, zs, rfl, rfl, h1, R1.sub _ _ g1, by rw [h2.length, g2.length]; exact Nat.le_of_lt (Nat.lt_of_lt_of_le c lim_line), k _ _ R2 (f1.trans f2) .non⟩
      · cases e4
    · cases h
  · cases h
theorem me_revs (i : Nat) {apos : Pos} (hN : X.N[i]? = some x := by rfl) (hv : Vis X.env.scope x := by first | exact Or.inl rfl | exact Or.inr (Or.inl rfl) | exact Or.inr (Or.inr rfl))
    (hd : (x == ("__debug__" : Str)) = false := by decide) (hcd : (x == ("__classdict__" : Str)) = false := by decide)
    (hbase : attributeBase (.Name x xp) "reverse" X.env (eval (.Name x xp) X.env) = eval (.Name x xp) X.env := by rfl) (hline : (apos.endLine == pos.line) = true := by rfl) :
    ME X (.Call (.Attribute (.Name x xp) "reverse" apos) [] [] pos) (eRevs i) := by
  refine ⟨_, pe_bm0 PySem.F.plainAttrs_list PySem.F.slot_list_reverse PySem.F.type_list_reverse mt_reverse (pe_var hN hv hd hcd) hbase hline, fun S d S' h W s Q R k => ?_⟩
  obtain ⟨S2, e2, h⟩ := bind_some h
  cases h
  obtain ⟨a, ds, es, vs, e3, e5, e4, h1, h2, kk⟩ := modL_ok R e2
  cases e4
  obtain ⟨R2, f2⟩ := kk _ h2.reverse
  exact ⟨_, e3, .inl ⟨rfl, vs, .of h1⟩, a, vs, rfl, rfl, h1, k _ _ R2 f2 .non⟩
theorem me_pop (i : Nat) {apos : Pos} (hN : X.N[i]? = some x := by rfl) (hv : Vis X.env.scope x := by first | exact Or.inl rfl | exact Or.inr (Or.inl rfl) | exact Or.inr (Or.inr rfl))
    (hd : (x == ("__debug__" : Str)) = false := by decide) (hcd : (x == ("__classdict__" : Str)) = false := by decide)
    (hbase : attributeBase (.Name x xp) "pop" X.env (eval (.Name x xp) X.env) = eval (.Name x xp) X.env := by rfl) (hline : (apos.endLine == pos.line) = true := by rfl) :
    ME X (.Call (.Attribute (.Name x xp) "pop" apos) [] [] pos) (ePop i) := by
  refine ⟨_, pe_bm0 PySem.F.plainAttrs_list PySem.F.slot_list_pop PySem.F.type_list_pop mt_pop (pe_var hN hv hd hcd) hbase hline, fun S d S' h W s Q R k => ?_⟩
  unfold ePop at h
  split at h
  · rename_i ds0 e0
    split at h
    · rename_i d0 ed
      obtain ⟨S2, e2, h⟩ := bind_some h
      cases h
      obtain ⟨a, ds, es, vs, e3, e5, e4, h1, h2, kk⟩ := modL_ok R e2
      rw [e0] at e5; cases e5
      cases e4
      obtain ⟨R2, f2⟩ := kk _ h2.dropLast
      obtain ⟨v, ev, rv⟩ := h2.get ed
      exact ⟨_, e3, .inl ⟨rfl, vs, .of h1⟩, a, vs, v, rfl, rfl, h1, by rw [h2.length]; exact ev, k v _ R2 f2 (rv.up f2)⟩
    · cases h
  · cases h
theorem ms_asg (he : ME X e fe) (hg : MG X tg g) (hs : swapsWithSole [tg] e pos.line X.env = pure false := by rfl) (hw : swappedStores [tg] e X.env = pure none := by rfl)
    (h1 : (assignEach [tg] X.env).map (·.2) = [assign tg X.env] := by rfl) : MS X (.Assign [tg] e pos) (sAsg fe g) := by
  obtain ⟨t, p, q⟩ := he
  obtain ⟨u, p', q'⟩ := hg
  refine ⟨_, ps_asg p p' hs hw h1, fun S fl S' h W s D R k => ?_⟩
  obtain ⟨⟨d1, S1⟩, e1, h⟩ := bind_some h
  obtain ⟨S2, e2, h⟩ := bind_some h
  cases h
  exact q S _ _ e1 W s _ R fun v W1 R1 f1 r1 => q' d1 S1 _ e2 W1 s v _ R1 r1 fun W2 s2 R2 f2 => k W2 s2 R2 (f1.trans f2)
theorem ms_set (i : Nat) (hN : X.N.Nodup) (he : ME X e fe) (hi : X.N[i]? = some x := by rfl) (hx : Loc X.env.scope x := by first | exact Or.inl rfl | exact Or.inr rfl) (hs : swapsWith e (some (.Name x xp)) pos.line X.env = pure false := by rfl)
    (hf : X.fn x = true ∨ X.env.scope.names.lookup x = some .local := by first | exact .inl rfl | exact .inr rfl) : MS X (.Assign [.Name x xp] e pos) (sAsg fe (gNm i)) := by
  obtain ⟨t, p, q⟩ := he
  refine ⟨_, ps_set hN hi hx p hs hf, fun S fl S' h W s D R k => ?_⟩
  obtain ⟨⟨d1, S1⟩, e1, h⟩ := bind_some h
  obtain ⟨S2, e2, h⟩ := bind_some h
  cases h
  exact q S _ _ e1 W s _ R fun v W1 R1 f1 r1 => tg_name (i := i) d1 S1 _ e2 W1 s v _ R1 r1 fun W2 s2 R2 f2 => k W2 s2 R2 (f1.trans f2)
theorem ts_own {K : PySem.W.Frag} {i : Nat} {t : TE} (q : TFok K t fc) : TSok K (tAsg t (gName i)) (sOwn i fc) := by
  intro S fl S' h W s D R k
  obtain ⟨⟨c1, S1⟩, e1, h⟩ := bind_some h
  cases h
  refine q S _ _ e1 W s _ R fun a W1 R1 f1 hp n => ?_
  obtain ⟨R2, f2⟩ := R1.setOwn f1 (i := i) hp n
  exact k W1 _ R2 f2
theorem ts_cell {K : PySem.W.Frag} {i : Nat} {t : TE} (q : TFok K t fc) : TSok K (tAsg t (gName i)) (sCell i fc) := by
  intro S fl S' h W s D R k
  obtain ⟨⟨c1, S1⟩, e1, h⟩ := bind_some h
  cases h
  refine q S _ _ e1 W s _ R fun a W1 R1 f1 hp n => ?_
  obtain ⟨R2, f2, r2⟩ := R1.addCell f1 hp n
  obtain ⟨R3, f3⟩ := R2.setVal (i := i) r2
  exact k (W1.cl a) _ R3 (f2.trans f3)
theorem ms_own (i : Nat) (hN : X.N.Nodup) (he : MF X e fc) (hi : X.N[i]? = some x := by rfl) (hx : Loc X.env.scope x := by first | exact Or.inl rfl | exact Or.inr rfl) (hs : swapsWith e (some (.Name x xp)) pos.line X.env = pure false := by rfl)
    (hf : X.fn x = true ∨ X.env.scope.names.lookup x = some .local := by first | exact .inl rfl | exact .inr rfl) : MS X (.Assign [.Name x xp] e pos) (sOwn i fc) := by
  obtain ⟨t, p, q⟩ := he
  exact ⟨_, ps_set hN hi hx p hs hf, ts_own q⟩
theorem ms_cell (i : Nat) (hN : X.N.Nodup) (he : MF X e fc) (hi : X.N[i]? = some x := by rfl) (hx : Loc X.env.scope x := by first | exact Or.inl rfl | exact Or.inr rfl) (hs : swapsWith e (some (.Name x xp)) pos.line X.env = pure false := by rfl)
    (hf : X.fn x = true ∨ X.env.scope.names.lookup x = some .local := by first | exact .inl rfl | exact .inr rfl) : MS X (.Assign [.Name x xp] e pos) (sCell i fc) := by
  obtain ⟨t, p, q⟩ := he
  exact ⟨_, ps_set hN hi hx p hs hf, ts_cell q⟩
theorem ms_aug (i : Nat) {op : Operator} {f : Int → Int → Int} (ho : PIp X op (ipI f)) (hN : X.N.Nodup) (he : ME X e fe) (hi : X.N[i]? = some x := by rfl) (hx : Loc X.env.scope x := by first | exact Or.inl rfl | exact Or.inr rfl)
    (hf : X.fn x = true ∨ X.env.scope.names.lookup x = some .local := by first | exact .inl rfl | exact .inr rfl) : MS X (.AugAssign (.Name x xp) op e pos) (sAug i f fe) := by
  obtain ⟨t, p, q⟩ := he
  refine ⟨_, ps_aug hN hi hx p ho hf, fun S fl S' h W s D R k => ?_⟩
  unfold sAug at h
  split at h
  · rename_i a ea
    obtain ⟨⟨d1, S1⟩, e1, h⟩ := bind_some h
    simp only at h
    split at h
    · cases h
      obtain ⟨v, ev, rv⟩ := R.slots i _ ea
      cases rv.int_inv
      refine ⟨_, ev, q S _ _ e1 W s _ R fun w W1 R1 f1 r1 => ?_⟩
      obtain ⟨R2, f2⟩ := R1.setVal (i := i) (RV.int (f a _))
      exact ⟨_, _, rfl, r1.int_inv, k W1 _ R2 (f1.trans f2)⟩
    · cases h
  · cases h
end

/-! ### what a loop walks -/
structure Yl (K : PySem.W.Frag) (J : It) (W : Wd) (ds : List D) : Prop where
  go : ∀ W2 S s, Rel K W2 S s → (∀ a o, W.F a = some o → W2.F a = some o) → W.io <+: W2.io → ∀ i d, ds[i]? = some d → J.go i W2.H ∧ ∀ x H', J.yld i W2.H x H' → ∃ W3, W3.H = H' ∧ Rel K W3 S s ∧ Fr W2 S.r s W3 S.r s ∧ RV K W3.F W3.io x d
  stop : ∀ W2 S s, Rel K W2 S s → (∀ a o, W.F a = some o → W2.F a = some o) → W.io <+: W2.io → J.stop ds.length W2.H
def TIok (K : PySem.W.Frag) (wi : TI) (f : AF) : Prop := ∀ S ds S', f S = some (ds, S') → ∀ W s (Rr : It → Hp → Prop), Rel K W S s → (∀ J W', Rel K W' S' s → Fr W S.r s W' S'.r s → Yl K J W' ds → Rr J W'.H) → wi s W.H Rr
def MI (X : Cx) (tg it : Expr) (f : AF) : Prop := ∃ wi, PI X tg it wi ∧ TIok X.K wi f
/-- a list, a tuple -/
def seqD : D → Option (List D)
  | .lst ds | .tup ds | .sc ds => some ds
  | _ => none
def iSeq (f : EF) : AF := fun S => (f S).bind fun p => (seqD p.1).bind fun ds => some (ds, p.2)
def rngD (lo : Int) (n : Nat) : List D := (List.range n).map fun i => .int (lo + (i : Nat))
open Classical in
noncomputable def iRg1 (f : EF) : AF := fun S => (f S).bind fun p => match p.1 with
  | .int n => if -B61 ≤ n ∧ n ≤ B61 then some (rngD 0 n.toNat, p.2) else none
  | _ => none
where B61 : Int := 2000000000000000000
open Classical in
noncomputable def iRg2 (f g : EF) : AF := fun S => (f S).bind fun p => (g p.2).bind fun q => match p.1, q.1 with
  | .int a, .int b => if -iRg1.B61 ≤ a ∧ a ≤ iRg1.B61 ∧ -iRg1.B61 ≤ b ∧ b ≤ iRg1.B61 then some (rngD a (b - a).toNat, q.2) else none
  | _, _ => none
section
variable {X : Cx} {tg e a b : Expr} {fe fa fb : EF}
open PySem.Spec PyProof.Rows in
theorem pi_seq {l : Expr} {tl : TE} (hl : PE X l tl) : PI X tg l (fun s H R => tl s H fun x H1 => (∃ a, x = .ref a ∧ (∃ xs, SqL X.K H1 a xs) ∧ R (Itl X.K a) H1) ∨ (∃ a, x = .ref a ∧ (∃ xs, SqT X.K H1 a xs) ∧ R (Itt X.K a) H1)) := by
  refine ⟨fun pins s σ H R I h => ?_⟩
  refine thn (hl.run pins s σ H _ I h) fun v s1 ⟨x, H1, I1, r1, q1⟩ => ?_
  rcases q1 with ⟨a, e, ⟨xs, hq⟩, q⟩ | ⟨a, e, ⟨xs, hq⟩, q⟩
  · subst e
    cases r1
    obtain ⟨its, rv, p, hz⟩ := I1.list hq
    refine wpAny_pyIter_list p.isList ?_
    refine ⟨s1.heap.objs.size, [s1.heap.objs.size], _, _, H1, rfl, I1.kept (t' := s1.toks) fun b o e => Heap.get?_push_of_some _ e, turn_list a _, ⟨_, Heap.get?_push_size _ rfl, rfl, rfl⟩, fun b hb => ?_, q⟩
    have e : b = s1.heap.objs.size := by simpa using hb
    subst e
    exact I1.fpOk (Nat.le_refl _) (I1.hok.fresh (Nat.le_refl _))
  · subst e
    cases r1
    obtain ⟨its, rv, p, hz⟩ := I1.tuple hq
    refine wpAny_pyIter_tuple (show s1.heap.IsTuple a its.toArray from p) ?_
    refine ⟨s1.heap.objs.size, [s1.heap.objs.size], _, _, H1, rfl, I1.kept (t' := s1.toks) fun b o e => Heap.get?_push_of_some _ e, turn_tuple a _, ⟨_, Heap.get?_push_size _ rfl, rfl, rfl⟩, fun b hb => ?_, q⟩
    have e : b = s1.heap.objs.size := by simpa using hb
    subst e
    exact I1.fpOk (Nat.le_refl _) (I1.hok.fresh (Nat.le_refl _))
theorem yl_list {K : PySem.W.Frag} {W : Wd} {a : Addr} {vs : List V} {ds : List D} (h : ∀ W2 : Wd, (∀ a o, W.F a = some o → W2.F a = some o) → (∀ a o, W2.F a = some o → W2.H a = some o) → SqL K W2.H a vs) (r : RVs K W.F W.io vs ds) : Yl K (Itl K a) W ds := by
  refine ⟨fun W2 S s R hF hi i d e => ?_, fun W2 S s R hF hi => ?_⟩
  · obtain ⟨v, ev, rv⟩ := r.get e
    refine ⟨⟨vs, v, h W2 hF R.sub, ev⟩, fun x H' y => ⟨W2, y.1.symm, R, .refl, ?_⟩⟩
    have := y.2 vs (h W2 hF R.sub)
    rw [ev] at this; cases this
    exact rv.mono hF hi
  · exact ⟨vs, h W2 hF R.sub, by rw [r.length]; exact Nat.le_refl _⟩
theorem yl_tup {K : PySem.W.Frag} {W : Wd} {a : Addr} {vs : List V} {ds : List D} (h : ∀ W2 : Wd, (∀ a o, W.F a = some o → W2.F a = some o) → (∀ a o, W2.F a = some o → W2.H a = some o) → SqT K W2.H a vs) (r : RVs K W.F W.io vs ds) : Yl K (Itt K a) W ds := by
  refine ⟨fun W2 S s R hF hi i d e => ?_, fun W2 S s R hF hi => ?_⟩
  · obtain ⟨v, ev, rv⟩ := r.get e
    refine ⟨⟨vs, v, h W2 hF R.sub, ev⟩, fun x H' y => ⟨W2, y.1.symm, R, .refl, ?_⟩⟩
    have := y.2 vs (h W2 hF R.sub)
    rw [ev] at this; cases this
    exact rv.mono hF hi
  · exact ⟨vs, h W2 hF R.sub, by rw [r.length]; exact Nat.le_refl _⟩
theorem yl_rng {K : PySem.W.Frag} {W : Wd} {lo : Int} {n : Nat} : Yl K (Itr lo n) W (rngD lo n) := by
  refine ⟨fun W2 S s R hF hi i d e => ?_, fun W2 S s R hF hi => ?_⟩
  · unfold rngD at e
    rw [List.getElem?_map] at e
    have hl : i < n := by
      have := (List.getElem?_eq_some_iff.mp (Option.map_eq_some_iff.mp e).choose_spec.1).1
      simpa using this
    rw [List.getElem?_range hl] at e
    cases e
    refine ⟨hl, fun x H' y => ⟨W2, y.1.symm, R, .refl, ?_⟩⟩
    rw [y.2]
    exact .int _
  · show n ≤ (rngD lo n).length
    simp [rngD]
theorem mi_seq (he : ME X e fe) : MI X tg e (iSeq fe) := by
  obtain ⟨t, p, q⟩ := he
  refine ⟨_, pi_seq p, fun S ds S' h W s Rr R k => ?_⟩
  obtain ⟨⟨d1, S1⟩, e1, h⟩ := bind_some h
  obtain ⟨ds', e2, h⟩ := bind_some h
  cases h
  refine q S _ _ e1 W s _ R fun v W1 R1 f1 r1 => ?_
  simp only at e2
  unfold seqD at e2
  split at e2
  · cases e2
    obtain ⟨a, vs, rfl, h1, h2⟩ := r1.lst_inv
    exact .inl ⟨a, rfl, ⟨vs, .of (R1.sub _ _ h1)⟩, k _ W1 R1 f1 (yl_list (fun W2 hF hs => .of (hs _ _ (hF _ _ h1))) h2)⟩
  · cases e2
    obtain ⟨a, vs, rfl, h1, h2⟩ := r1.tup_inv
    exact .inr ⟨a, rfl, ⟨vs, sqT_mono R1.sub h1⟩, k _ W1 R1 f1 (yl_tup (fun W2 hF hs => sqT_mono hs (sqT_mono hF h1)) h2)⟩
  · cases e2
    obtain ⟨a, vs, rfl, h1, h2⟩ := r1.sc_inv
    exact .inl ⟨a, rfl, ⟨vs, sqL_mono R1.sub h1⟩, k _ W1 R1 f1 (yl_list (fun W2 hF hs => sqL_mono hs (sqL_mono hF h1)) h2)⟩
  · cases e2
theorem mi_rg1 {p pos : Pos} (hg : Gl X "range") (hm : X.mg "range" = none) (ha : ME X a fa) (hs : starEach [a] X.env = [(false, eval a X.env)] := by rfl) : MI X tg (.Call (.Name "range" p) [a] [] pos) (iRg1 fa) := by
  obtain ⟨t, p, q⟩ := ha
  refine ⟨_, pi_range1 hg hm (pa_cons p pa_nil hs) hs, fun S ds S' h W s Rr R k => ?_⟩
  obtain ⟨⟨d1, S1⟩, e1, h⟩ := bind_some h
  simp only at h
  split at h
  · split at h
    · rename_i n c
      cases h
      refine q S _ _ e1 W s _ R fun v W1 R1 f1 r1 => ?_
      cases r1.int_inv
      unfold iRg1.B61 at c
      refine ⟨n, rfl, by omega, by omega, ?_⟩
      have := k (Itr 0 n.toNat) W1 R1 f1 yl_rng
      simpa using this
    · cases h
  · cases h
theorem mi_rg2 {p pos : Pos} (hg : Gl X "range") (hm : X.mg "range" = none) (ha : ME X a fa) (hb : ME X b fb) (hs : starEach [a, b] X.env = [(false, eval a X.env), (false, eval b X.env)] := by rfl) (hs2 : starEach [b] X.env = [(false, eval b X.env)] := by rfl)
    (hs3 : starEach [a, b] X.env = (false, eval a X.env) :: starEach [b] X.env := by rfl) (hs4 : starEach [b] X.env = (false, eval b X.env) :: starEach [] X.env := by rfl) :
    MI X tg (.Call (.Name "range" p) [a, b] [] pos) (iRg2 fa fb) := by
  obtain ⟨t, p, q⟩ := ha
  obtain ⟨t', p', q'⟩ := hb
  refine ⟨_, pi_range2 hg hm (pa_cons p (pa_cons p' pa_nil hs4) hs3) hs hs2, fun S ds S' h W s Rr R k => ?_⟩
  obtain ⟨⟨d1, S1⟩, e1, h⟩ := bind_some h
  obtain ⟨⟨d2, S2⟩, e2, h⟩ := bind_some h
  simp only at h
  split at h
  · split at h
    · rename_i c
      cases h
      refine q S _ _ e1 W s _ R fun v W1 R1 f1 r1 => ?_
      refine q' S1 _ _ e2 W1 s _ R1 fun v2 W2 R2 f2 r2 => ?_
      cases r1.int_inv
      cases r2.int_inv
      unfold iRg1.B61 at c
      exact ⟨_, _, rfl, ⟨by omega, by omega, by omega, by omega⟩, k _ W2 R2 (f1.trans f2) yl_rng⟩
    · cases h
  · cases h
end

/-! ### for, while -/
def forM (g : GF) (b : SF) : List D → Ms → Option (Fl × Ms)
  | [], S => some (.nx, S)
  | d :: ds, S => (g d S).bind fun S1 => (b S1).bind fun p => match p.1 with
    | .nx => forM g b ds p.2
    | .ct => forM g b ds p.2
    | .bk => some (.nx, p.2)
    | .rt v => some (.rt v, p.2)
def sFor (f : AF) (g : GF) (b : SF) : SF := fun S => (f S).bind fun p => forM g b p.1 p.2
def whileM (c : BF) (b : SF) : Nat → Ms → Option (Fl × Ms)
  | 0, _ => none
  | n + 1, S => (c S).bind fun p => if p.1 then (b p.2).bind fun q => match q.1 with
      | .nx => whileM c b n q.2
      | .ct => whileM c b n q.2
      | .bk => some (.nx, q.2)
      | .rt v => some (.rt v, q.2)
    else some (.nx, p.2)
def WMAX : Nat := 1000000
def sWhile (c : BF) (b : SF) : SF := whileM c b WMAX
section
variable {X : Cx} {tg it c : Expr} {body : List Stmt} {fi : AF} {g : GF} {fb : SF} {fc : BF} {pos : Pos}
theorem ms_for (hc : X.calm = true) (hi : MI X tg it fi) (hg : MG X tg g) (hb : MSs X body fb) (hp : PassesOwn (model X.prog X.w) X.A X.env X.xe := by exact PassesOwn.never)
    (hs : ∀ x, foldedSetIterable it X.env x = pure x := by intro _; rfl) : MS X (.For tg it body [] pos) (sFor fi g fb) := by
  obtain ⟨wi, pi, qi⟩ := hi
  obtain ⟨tgt, pg, qg⟩ := hg
  obtain ⟨tb, pb, qb⟩ := hb
  refine ⟨_, ps_for hp hc pi pg pb hs, fun S fl S' h W s D R k => ?_⟩
  obtain ⟨⟨ds, S1⟩, e1, h⟩ := bind_some h
  refine qi S ds S1 e1 W s _ R fun J W1 R1 f1 Y => ?_
  refine ⟨fun i m s2 H2 => m = ds.length - i ∧ i ≤ ds.length ∧ ∃ W2 S2, W2.H = H2 ∧ Rel X.K W2 S2 s2 ∧ Fr W1 S1.r s W2 S2.r s2 ∧ forM g fb (ds.drop i) S2 = some (fl, S'), ⟨ds.length, rfl, Nat.zero_le _, W1, S1, rfl, R1, .refl, h⟩, ?_⟩
  rintro i m s2 H2 ⟨rfl, hi, W2, S2, rfl, R2, f2, e2⟩
  by_cases hlt : i < ds.length
  · have ed : ds[i]? = some ds[i] := List.getElem?_eq_getElem hlt
    obtain ⟨go, yl⟩ := Y.go W2 S2 s2 R2 f2.fx f2.ix i _ ed
    rw [List.drop_eq_getElem_cons hlt] at e2
    obtain ⟨S3, e3, e2⟩ := bind_some e2
    obtain ⟨⟨fl1, S4⟩, e4, e2⟩ := bind_some e2
    refine .inr ⟨go, fun s3 H3 => i + 1 ≤ ds.length ∧ ∃ W3 S3, W3.H = H3 ∧ Rel X.K W3 S3 s3 ∧ Fr W1 S1.r s W3 S3.r s3 ∧ forM g fb (ds.drop (i + 1)) S3 = some (fl, S'), ?_, fun x H' y => ?_⟩
    · rintro s3 H3 ⟨hl, W3, S3, rfl, R3, f3, e5⟩
      exact ⟨_, by omega, rfl, hl, W3, S3, rfl, R3, f3, e5⟩
    · obtain ⟨W3, rfl, R3, f3, r3⟩ := yl x H' y
      refine qg _ S2 S3 e3 W3 s2 x _ R3 r3 fun W4 s4 R4 f4 => ?_
      refine qb S3 fl1 S4 e4 W4 s4 _ R4 fun W5 s5 R5 f5 => ?_
      have ff := ((f2.trans f3).trans f4).trans f5
      cases fl1 with
      | nx => exact ⟨hlt, W5, S4, rfl, R5, ff, e2⟩
      | ct => exact ⟨hlt, W5, S4, rfl, R5, ff, e2⟩
      | bk => cases e2; exact k W5 s5 R5 (f1.trans ff)
      | rt d => cases e2; exact k W5 s5 R5 (f1.trans ff)
  · have ei : i = ds.length := by omega
    subst ei
    rw [List.drop_length] at e2
    cases e2
    exact .inl ⟨Y.stop W2 _ s2 R2 f2.fx f2.ix, k W2 s2 R2 (f1.trans f2)⟩
theorem ms_while (hc : MT X c fc) (hb : MSs X body fb) (hp : PassesOwn (model X.prog X.w) X.A X.env X.xe := by exact PassesOwn.never) : MS X (.While c body [] pos) (sWhile fc fb) := by
  obtain ⟨tc, pc, qc⟩ := hc
  obtain ⟨tb, pb, qb⟩ := hb
  refine ⟨_, ps_while hp pc pb, fun S fl S' h W s D R k => ?_⟩
  refine ⟨fun m s2 H2 => ∃ W2 S2, W2.H = H2 ∧ Rel X.K W2 S2 s2 ∧ Fr W S.r s W2 S2.r s2 ∧ whileM fc fb m S2 = some (fl, S'), ⟨WMAX, W, S, rfl, R, .refl, h⟩, ?_⟩
  rintro m s2 H2 ⟨W2, S2, rfl, R2, f2, e2⟩
  cases m with
  | zero => cases e2
  | succ n =>
    obtain ⟨⟨b, S3⟩, e3, e2⟩ := bind_some e2
    refine qc S2 _ _ e3 W2 s2 _ R2 fun W3 R3 f3 => ?_
    cases b with
    | true =>
      obtain ⟨⟨fl1, S4⟩, e4, e2⟩ := bind_some e2
      refine ⟨fun s4 H4 => ∃ W2 S2, W2.H = H4 ∧ Rel X.K W2 S2 s4 ∧ Fr W S.r s W2 S2.r s4 ∧ whileM fc fb n S2 = some (fl, S'), fun s4 H4 z => ⟨n, Nat.lt_succ_self n, z⟩, ?_⟩
      refine qb S3 fl1 S4 e4 W3 s2 _ R3 fun W5 s5 R5 f5 => ?_
      have ff := (f2.trans f3).trans f5
      cases fl1 with
      | nx => exact ⟨W5, S4, rfl, R5, ff, e2⟩
      | ct => exact ⟨W5, S4, rfl, R5, ff, e2⟩
      | bk => cases e2; exact k W5 s5 R5 ff
      | rt d => cases e2; exact k W5 s5 R5 ff
    | false => cases e2; exact k W3 s2 R3 (f2.trans f3)
end

/-! ### defs -/
abbrev FF := List D → List Cell → Option (D × List Cell)
def fnM (N : Nat) (b : SF) : FF := fun ds m => (b ⟨ds.map Slot.val ++ List.replicate (N - ds.length) .emp, m⟩).bind fun p => match p.1 with
  | .rt d => some (d, p.2.m)
  | .nx => some (.non, p.2.m)
  | _ => none
def spM (K : PySem.W.Frag) (n : Nat) (f : FF) : Sp := fun vs H Q _ => vs.length = n ∧ ∃ W ds m d m', W.H = H ∧ Rel K W ⟨[], m⟩ [] ∧ RVs K W.F W.io vs ds ∧ f ds m = some (d, m') ∧
  ∀ v W', Rel K W' ⟨[], m'⟩ [] → Fr W [] [] W' [] [] → RV K W'.F W'.io v d → Q v W'.H
def eFn (n : Nat) (f : FF) (a : AF) : EF := fun S => (a S).bind fun p => if p.1.length = n then (f p.1 p.2.m).bind fun q => some (q.1, { p.2 with m := q.2 }) else none
section
variable {K : PySem.W.Frag} {W W' : Wd} {S : Ms} {s : L2.St} {m : List Cell}
theorem Rel.bare (R : Rel K W S s) : Rel K W ⟨[], S.m⟩ [] := ⟨R.sub, R.nd, R.nf, R.len, R.cells, rfl, fun i d h => by simp at h, fun i c h => by simp at h, fun i j c c' a h => by simp at h⟩
theorem not_own {b : Addr} : ¬ Own [] [] b := fun ⟨i, c, h, _⟩ => by simp at h
/-- behind a call: the caller's slots are as they were -/
theorem Rel.back (R : Rel K W S s) (R' : Rel K W' ⟨[], m⟩ []) (f : Fr W [] [] W' [] []) : Rel K W' { S with m := m } s ∧ Fr W S.r s W' S.r s := by
  have mi : ∀ {b}, Mine W [] [] b ↔ (∃ o, W.F b = some o) ∨ b ∈ W.io := fun {b} => ⟨fun h => by
    rcases h with h | h | h
    · exact .inl h
    · exact .inr h
    · exact absurd h not_own, fun h => by
    rcases h with h | h
    · exact .inl h
    · exact .inr (.inl h)⟩
  have keep : ∀ (i : Nat) (c : Cell) (a : Addr), S.r[i]? = some (Slot.own c) → s[i]? = some (some (V.ref a)) → W.F a = none → a ∉ W.io → CR K W a c → W'.F a = none ∧ a ∉ W'.io ∧ CR K W' a c := fun i c a h1 h2 n1 n2 q => by
    obtain ⟨o, ho⟩ := q.there
    obtain ⟨g1, g2⟩ := f.ot a o ho (fun z => by
      rcases mi.mp z with ⟨u, z⟩ | z
      · rw [n1] at z; cases z
      · exact n2 z)
    refine ⟨?_, fun z => g2 (.inr (.inl z)), q.mono f.fx f.ix fun o' h' => ?_⟩
    · cases e : W'.F a with
      | none => rfl
      | some u => exact absurd (.inl ⟨u, e⟩) g2
    · rw [ho] at h'; cases h'; exact g1
  refine ⟨⟨R'.sub, R'.nd, R'.nf, R'.len, R'.cells, R.sl, fun i d h => ?_, fun i c h => ?_, R.odis⟩, ⟨f.fx, f.ix, fun b o h n => ?_, f.hp⟩⟩
  · obtain ⟨v, e, q⟩ := R.slots i d h
    exact ⟨v, e, q.up f⟩
  · obtain ⟨a, e, n1, n2, q⟩ := R.owns i c h
    obtain ⟨g1, g2, g3⟩ := keep i c a h e n1 n2 q
    exact ⟨a, e, g1, g2, g3⟩
  · obtain ⟨g1, g2⟩ := f.ot b o h fun z => n (by
      rcases mi.mp z with z | z
      · exact .inl z
      · exact .inr (.inl z))
    refine ⟨g1, fun z => ?_⟩
    rcases z with z | z | z
    · exact g2 (.inl z)
    · exact g2 (.inr (.inl z))
    · exact n (.inr (.inr z))
theorem start_rel {n : Nat} {vs : List V} {ds : List D} {N : List Str} (R : Rel K W ⟨[], m⟩ []) (r : RVs K W.F W.io vs ds) : Rel K W ⟨ds.map Slot.val ++ List.replicate (N.length - ds.length) .emp, m⟩ (L2.start N vs) := by
  have own : ∀ i c, (ds.map Slot.val ++ List.replicate (N.length - ds.length) Slot.emp)[i]? = some (Slot.own c) → False := fun i c h => by
    have := List.mem_of_getElem? h
    simp at this
  refine ⟨R.sub, R.nd, R.nf, R.len, R.cells, ?_, fun i d h => ?_, fun i c h => absurd h (own i c), fun i j c c' a h => absurd h (own i c)⟩
  · unfold L2.start
    simp [r.length]
  · by_cases hi : i < ds.length
    · rw [List.getElem?_append_left (by simpa using hi), List.getElem?_map] at h
      cases e : ds[i]? with
      | none => rw [e] at h; cases h
      | some d' =>
        rw [e] at h; cases h
        obtain ⟨v, ev, rv⟩ := r.get e
        refine ⟨v, ?_, rv⟩
        unfold L2.start
        rw [List.getElem?_append_left (by rw [List.length_map, r.length]; exact hi), List.getElem?_map, ev]
        rfl
    · rw [List.getElem?_append_right (by simpa using Nat.le_of_not_lt hi)] at h
      have := List.mem_of_getElem? h
      simp at this
theorem end_rel (R : Rel K W S s) : Rel K W ⟨[], S.m⟩ [] := R.bare
theorem end_fr {W0 : Wd} {S0 : Ms} {s0 : L2.St} (h0 : ∀ b, ¬ Own S0.r s0 b) (f : Fr W0 S0.r s0 W S.r s) : Fr W0 [] [] W [] [] := by
  refine ⟨f.fx, f.ix, fun b o h n => ?_, f.hp⟩
  obtain ⟨g1, g2⟩ := f.ot b o h fun z => n (by
    rcases z with z | z | z
    · exact .inl z
    · exact .inr (.inl z)
    · exact absurd z (h0 b))
  refine ⟨g1, fun z => g2 ?_⟩
  rcases z with z | z | z
  · exact .inl z
  · exact .inr (.inl z)
  · exact absurd z not_own
end
section
variable {P : Program} {w : World} {K : PySem.W.Frag} {mg : Str → Option Value} {base : Heap}
/-- THE RULE: a def of the text answers as its machine function -/
theorem fn_ok {x qual : Str} {st : Stmt} {f : Addr} {fd : FuncData} {N ps : List Str} {k : Nat} {b : SF} (F : Fun K x qual st f fd) (S : FnScope N ps (defScope st))
    (hb : ∀ (cdv : Value) (A : Around) (outer : List Env) (s : Shared) (H : Hp) (E : XK), Room k (A.deeper (PyProof.Rows.envOfC qual (defScope st) s.heap.objs.size f cdv)) →
      MSs (cxOf CX0 P w K mg base N qual (defScope st) f cdv A outer s H E).nox (defBody st) b) : FnOk P w K mg base CX0 (k + 1) f fd ps (spM K ps.length (fnM N.length b)) := by
  refine F.ok S (fun vs H Q E h => h.1) (fun cdv A outer s H vs Q E hr h => ?_)
  obtain ⟨hl, W, ds, m, d, m', rfl, R, r, e, kk⟩ := h
  obtain ⟨t, p, q⟩ := hb cdv A outer s W.H E hr
  refine ⟨t, p, ?_⟩
  unfold fnM at e
  obtain ⟨⟨fl, S'⟩, e1, e⟩ := bind_some e
  have own : ∀ b, ¬ Own (ds.map Slot.val ++ List.replicate (N.length - ds.length) Slot.emp) (L2.start N vs) b := fun b ⟨i, c, h, _⟩ => by
    have := List.mem_of_getElem? h
    simp at this
  refine q _ fl S' e1 W (L2.start N vs) _ (start_rel (n := 0) R r) fun W' s' R' f' => ?_
  have f0 := end_fr (S0 := ⟨ds.map Slot.val ++ List.replicate (N.length - ds.length) Slot.emp, m⟩) own f'
  cases fl with
  | nx => cases e; exact kk .non W' R'.bare f0 .non
  | rt d => cases e; exact fun v rv => kk v W' R'.bare f0 rv
  | bk => cases e
  | ct => cases e
end
section
variable {X : Cx} {CX : CXT} {k n : Nat} {f : Addr} {fd : FuncData} {ps : List Str} {ff : FF} {E : XK} {x : Str} {p pos : Pos} {e : Expr} {es : List Expr} {fa : AF}
theorem te_fn {K : PySem.W.Frag} {t : TA} (q : TAok K t fa) : TEok K (tCall (spM K n ff) [] E t) (eFn n ff fa) := by
  intro S d S' h W s Q R kk
  obtain ⟨⟨ds, S1⟩, e1, h⟩ := bind_some h
  simp only at h
  split at h
  · rename_i hn
    obtain ⟨⟨d1, m1⟩, e2, h⟩ := bind_some h
    cases h
    refine q S _ _ e1 W s _ R fun vs W1 R1 f1 r1 => ?_
    refine ⟨by rw [List.append_nil, r1.length]; exact hn, W1, ds, S1.m, _, m1, rfl, R1.bare, by rw [List.append_nil]; exact r1, e2, fun v W2 R2 f2 r2 => ?_⟩
    obtain ⟨R3, f3⟩ := R1.back R2 f2
    exact kk v W2 R3 (f1.trans f3) r2
  · cases h
theorem me_fn (G : FnOk X.prog X.w X.K X.mg X.base CX0 k f fd ps (spM X.K n ff)) (hr : Room k X.A) (hm : X.mg x = some (.ref f)) (hk : PySem.W.keepIn X.K (.ref f) = true) (hb : Binds X.K fd ps []) (ha : MA X (e :: es) fa)
    (hg : Gl X x := by rfl) (hdb : (x == ("__debug__" : Str)) = false := by decide) (he : starEach (e :: es) X.env = (false, eval e X.env) :: starEach es X.env := by rfl) (hpl : (backTo pos (starEach es X.env)).any (·.1) = false := by rfl) :
    ME X (.Call (.Name x p) (e :: es) [] pos) (eFn n ff fa) := by
  obtain ⟨t, p, q⟩ := ha
  exact ⟨_, pe_call G hr hg hm hk hb .nil pass0 p hdb he hpl, te_fn q⟩
theorem me_fn0 (G : FnOk X.prog X.w X.K X.mg X.base CX0 k f fd ps (spM X.K n ff)) (hr : Room k X.A) (hm : X.mg x = some (.ref f)) (hk : PySem.W.keepIn X.K (.ref f) = true) (hb : Binds X.K fd ps [])
    (hg : Gl X x := by rfl) (hdb : (x == ("__debug__" : Str)) = false := by decide) : ME X (.Call (.Name x p) [] [] pos) (eFn n ff aNil) :=
  ⟨_, pe_call0 G hr hg hm hk hb .nil pass0 hdb, te_fn (fun S d S' h W s Q R k => by cases h; exact k _ W R .refl .nil)⟩
/-- the same answers by another function -/
theorem spM_imp {K : PySem.W.Frag} {f g : FF} (h : ∀ ds m d m', g ds m = some (d, m') → f ds m = some (d, m')) : ∀ vs H Q E, spM K n g vs H Q E → spM K n f vs H Q E := fun vs H Q E ⟨hl, W, ds, m, d, m', e, R, r, q, k⟩ => ⟨hl, W, ds, m, d, m', e, R, r, h _ _ _ _ q, k⟩
end
end M

/-! M4: list comprehensions. -/
namespace M
open PySem PySem.Spec L2

def wipeR (r : List Slot) : List Nat → List Slot
  | [] => r
  | v :: vs => (wipeR r vs).set v .emp
/-- the block's own slots as they were -/
def restR (r0 r : List Slot) : List Nat → List Slot
  | [] => r
  | v :: vs => match r0[v]? with
    | some x => (restR r0 r vs).set v x
    | none => restR r0 r vs
def MTs (X : Cx) (cs : List Expr) (f : BF) : Prop := ∃ t, PTs X cs t ∧ TTok X.K t f
def bYes : BF := fun S => some (true, S)
def lcM (g : GF) (t : BF) (f : EF) (vs : List Nat) : List D → List D → Ms → Option (List D × Ms)
  | [], acc, S => some (acc, S)
  | d :: ds, acc, S => (g d { S with r := wipeR S.r vs }).bind fun S1 => (t S1).bind fun p => if p.1 then (f p.2).bind fun q => if acc.length < LIM then lcM g t f vs ds (acc ++ [q.1]) { q.2 with r := restR S.r q.2.r vs } else none
    else lcM g t f vs ds acc { p.2 with r := restR S.r p.2.r vs }
def cLc (fi : AF) (g : GF) (t : BF) (f : EF) (vs : List Nat) : CF := fun S => (fi S).bind fun p => (lcM g t f vs p.1 [] p.2).bind fun q => some (.lst q.1, q.2)

section
variable {K : PySem.W.Frag} {W W' : Wd} {S S' : Ms} {s s' : L2.St}
theorem wipeR_len (r : List Slot) : ∀ vs, (wipeR r vs).length = r.length
  | [] => rfl
  | v :: vs => by unfold wipeR; rw [List.length_set, wipeR_len r vs]
theorem restR_len (r0 r : List Slot) : ∀ vs, (restR r0 r vs).length = r.length
  | [] => rfl
  | v :: vs => by
    unfold restR
    split
    · rw [List.length_set, restR_len r0 r vs]
    · exact restR_len r0 r vs
theorem wipeR_get {r : List Slot} {i : Nat} {x : Slot} : ∀ {vs : List Nat}, (wipeR r vs)[i]? = some x → x = .emp ∨ (i ∉ vs ∧ r[i]? = some x)
  | [], h => .inr ⟨by simp, h⟩
  | v :: vs, h => by
    unfold wipeR at h
    by_cases e : v = i
    · subst e
      by_cases hv : v < (wipeR r vs).length
      · rw [List.getElem?_set_self hv] at h; cases h; exact .inl rfl
      · rw [List.getElem?_eq_none (by simpa using hv)] at h; cases h
    · rw [List.getElem?_set_ne e] at h
      rcases wipeR_get h with h | ⟨h1, h2⟩
      · exact .inl h
      · exact .inr ⟨by simp [Ne.symm e, h1], h2⟩
theorem restR_get {r0 r : List Slot} {i : Nat} (hl : r.length = r0.length) : ∀ {vs : List Nat}, (restR r0 r vs)[i]? = if i ∈ vs then r0[i]? else r[i]?
  | [] => by simp [restR]
  | v :: vs => by
    unfold restR
    have ih := restR_get (r0 := r0) (r := r) (i := i) hl (vs := vs)
    by_cases e : v = i
    · subst e
      rw [if_pos (by simp)]
      split
      · rename_i x hx
        rw [hx, List.getElem?_set_self (by rw [restR_len, hl]; exact (List.getElem?_eq_some_iff.mp hx).1)]
      · rename_i hx
        rw [ih, hx]
        split
        · rfl
        · rw [List.getElem?_eq_none_iff] at hx ⊢; omega
    · have e2 : (i ∈ v :: vs) ↔ i ∈ vs := by simp [Ne.symm e]
      split
      · rw [List.getElem?_set_ne e, ih]; simp [e2]
      · rw [ih]; simp [e2]
theorem wipe_get {i : Nat} : ∀ {vs : List Nat}, i ∉ vs → (wipe s vs)[i]? = s[i]?
  | [], _ => rfl
  | v :: vs, h => by
    unfold wipe
    have h1 : v ≠ i := fun e => h (by simp [e])
    rw [List.getElem?_set_ne h1]
    exact wipe_get fun z => h (by simp [z])
theorem Rel.wipe (R : Rel K W S s) (vs : List Nat) : Rel K W { S with r := wipeR S.r vs } (L2.wipe s vs) ∧ Fr W S.r s W (wipeR S.r vs) (L2.wipe s vs) := by
  have own : ∀ (i : Nat) (c : Cell), (wipeR S.r vs)[i]? = some (Slot.own c) → i ∉ vs ∧ S.r[i]? = some (Slot.own c) := fun i c h => by
    rcases wipeR_get h with h | h
    · cases h
    · exact h
  refine ⟨⟨R.sub, R.nd, R.nf, R.len, R.cells, by rw [wipe_length, wipeR_len, R.sl], fun i d h => ?_, fun i c h => ?_, fun i j c c' a h1 h2 h3 h4 => ?_⟩, ⟨fun _ _ h => h, List.prefix_refl _, fun b o h n => ⟨h, fun m => n ?_⟩, fun _ h => h⟩⟩
  · rcases wipeR_get h with h | ⟨h1, h2⟩
    · cases h
    · obtain ⟨v, e, q⟩ := R.slots i d h2
      exact ⟨v, by rw [wipe_get h1]; exact e, q⟩
  · obtain ⟨h1, h2⟩ := own i c h
    obtain ⟨a, e, q⟩ := R.owns i c h2
    exact ⟨a, by rw [wipe_get h1]; exact e, q⟩
  · obtain ⟨i1, i2⟩ := own i c h1
    obtain ⟨j1, j2⟩ := own j c' h2
    rw [wipe_get i1] at h3
    rw [wipe_get j1] at h4
    exact R.odis i j c c' a i2 j2 h3 h4
  · rcases m with m | m | ⟨i, c, m1, m2⟩
    · exact .inl m
    · exact .inr (.inl m)
    · obtain ⟨i1, i2⟩ := own i c m1
      rw [wipe_get i1] at m2
      exact .inr (.inr ⟨i, c, i2, m2⟩)
theorem wipe_at {i : Nat} {vs : List Nat} (e : L2.wipe s' vs = L2.wipe s vs) (h : i ∉ vs) : s'[i]? = s[i]? := by
  rw [← wipe_get (s := s') h, ← wipe_get (s := s) h, e]
theorem Rel.rest {vs : List Nat} (R : Rel K W S s) (R' : Rel K W' S' s') (f : Fr W (wipeR S.r vs) (L2.wipe s vs) W' S'.r s') (e : L2.wipe s' vs = L2.wipe s vs) :
    Rel K W' { S' with r := restR S.r S'.r vs } s ∧ Fr W S.r s W' (restR S.r S'.r vs) s := by
  have hlen : S'.r.length = S.r.length := by
    have := congrArg List.length e
    rw [wipe_length, wipe_length] at this
    rw [← R'.sl, ← R.sl, this]
  have get : ∀ (i : Nat), (restR S.r S'.r vs)[i]? = if i ∈ vs then S.r[i]? else S'.r[i]? := fun i => restR_get hlen
  have keep : ∀ (i : Nat) (c : Cell) (a : Addr), i ∈ vs → S.r[i]? = some (Slot.own c) → s[i]? = some (some (V.ref a)) → W'.F a = none ∧ a ∉ W'.io ∧ ¬ Own S'.r s' a ∧ CR K W' a c := fun i c a hi h1 h2 => by
    obtain ⟨a', e1, n1, n2, q⟩ := R.owns i c h1
    rw [h2] at e1; cases e1
    obtain ⟨o, ho⟩ := q.there
    obtain ⟨g1, g2⟩ := f.ot a o ho (fun z => by
      rcases z with ⟨u, z⟩ | z | ⟨j, c', z1, z2⟩
      · rw [n1] at z; cases z
      · exact n2 z
      · rcases wipeR_get z1 with z | ⟨z3, z4⟩
        · cases z
        · rw [wipe_get z3] at z2
          have := R.odis i j c c' a h1 z4 h2 z2
          subst this
          exact z3 hi)
    refine ⟨?_, fun z => g2 (.inr (.inl z)), fun z => g2 (.inr (.inr z)), q.mono f.fx f.ix fun o' h' => ?_⟩
    · cases e : W'.F a with
      | none => rfl
      | some u => exact absurd (.inl ⟨u, e⟩) g2
    · rw [ho] at h'; cases h'; exact g1
  refine ⟨⟨R'.sub, R'.nd, R'.nf, R'.len, R'.cells, by show s.length = (restR S.r S'.r vs).length; rw [restR_len, hlen, R.sl], fun i d h => ?_, fun i c h => ?_, fun i j c c' a h1 h2 h3 h4 => ?_⟩, ⟨f.fx, f.ix, fun b o h n => ?_, f.hp⟩⟩
  · have h : (restR S.r S'.r vs)[i]? = some (Slot.val d) := h
    rw [get] at h
    split at h
    · obtain ⟨v, e1, q⟩ := R.slots i d h
      exact ⟨v, e1, q.mono f.fx f.ix⟩
    · rename_i hi
      obtain ⟨v, e1, q⟩ := R'.slots i d h
      exact ⟨v, by rw [← wipe_at e hi]; exact e1, q⟩
  · have h : (restR S.r S'.r vs)[i]? = some (Slot.own c) := h
    rw [get] at h
    split at h
    · rename_i hi
      obtain ⟨a, e1, _⟩ := R.owns i c h
      obtain ⟨g1, g2, _, g3⟩ := keep i c a hi h e1
      exact ⟨a, e1, g1, g2, g3⟩
    · rename_i hi
      obtain ⟨a, e1, q⟩ := R'.owns i c h
      exact ⟨a, by rw [← wipe_at e hi]; exact e1, q⟩
  · have h1 : (restR S.r S'.r vs)[i]? = some (Slot.own c) := h1
    have h2 : (restR S.r S'.r vs)[j]? = some (Slot.own c') := h2
    rw [get] at h1 h2
    split at h1
    · rename_i hi
      split at h2
      · exact R.odis i j c c' a h1 h2 h3 h4
      · rename_i hj
        obtain ⟨_, _, g, _⟩ := keep i c a hi h1 h3
        exact absurd ⟨j, c', h2, by rw [wipe_at e hj]; exact h4⟩ g
    · rename_i hi
      split at h2
      · rename_i hj
        obtain ⟨_, _, g, _⟩ := keep j c' a hj h2 h4
        exact absurd ⟨i, c, h1, by rw [wipe_at e hi]; exact h3⟩ g
      · rename_i hj
        exact R'.odis i j c c' a h1 h2 (by rw [wipe_at e hi]; exact h3) (by rw [wipe_at e hj]; exact h4)
  · obtain ⟨g1, g2⟩ := f.ot b o h fun z => n (by
      rcases z with z | z | ⟨i, c, z1, z2⟩
      · exact .inl z
      · exact .inr (.inl z)
      · rcases wipeR_get z1 with z | ⟨z3, z4⟩
        · cases z
        · rw [wipe_get z3] at z2
          exact .inr (.inr ⟨i, c, z4, z2⟩))
    refine ⟨g1, fun z => ?_⟩
    rcases z with z | z | ⟨i, c, z1, z2⟩
    · exact g2 (.inl z)
    · exact g2 (.inr (.inl z))
    · rw [get] at z1
      split at z1
      · exact n (.inr (.inr ⟨i, c, z1, z2⟩))
      · rename_i hi
        exact g2 (.inr (.inr ⟨i, c, z1, by rw [wipe_at e hi]; exact z2⟩))
/-- a new object that stands apart stays so -/
theorem New.keep {W0 W1 : Wd} {S0 S1 : Ms} {s0 s1 : L2.St} {p : Addr} {c : Cell} (n : New K W0 S0 s0 p c) (f : Fr W0 S0.r s0 W1 S1.r s1) : New K W1 S1 s1 p c := by
  obtain ⟨o, ho⟩ := n.cr.there
  obtain ⟨g1, g2⟩ := f.ot p o ho (fun z => by
    rcases z with ⟨u, z⟩ | z | z
    · rw [n.nf] at z; cases z
    · exact n.ni z
    · exact n.no z)
  refine ⟨?_, fun z => g2 (.inr (.inl z)), fun z => g2 (.inr (.inr z)), n.cr.mono f.fx f.ix fun o' h' => ?_⟩
  · cases e : W1.F p with
    | none => rfl
    | some u => exact absurd (.inl ⟨u, e⟩) g2
  · rw [ho] at h'; cases h'; exact g1
/-- it is written -/
theorem Rel.wrApart (R : Rel K W S s) {p : Addr} {c c' : Cell} {o : HO} (n : New K W S s p c) (hc : CR K (W.wr p o) p c') : Rel K (W.wr p o) S s ∧ New K (W.wr p o) S s p c' := by
  have hF : ∀ b u, W.F b = some u → (W.wr p o).F b = some u := fun _ _ h => h
  have hio : W.io <+: (W.wr p o).io := List.prefix_refl _
  have hH : ∀ b, b ≠ p → ∀ u, W.H b = some u → (W.wr p o).H b = some u := fun b nb u h => by
    show upd W.H p o b = some u
    rw [upd_ne nb]; exact h
  refine ⟨⟨fun b u h => hH b (ne_of_none h n.nf) u (R.sub b u h), R.nd, R.nf, R.len, fun k c1 b e1 e2 => (R.cells k c1 b e1 e2).mono hF hio (hH b fun z => n.ni (by rw [← z]; exact List.mem_of_getElem? e2)), R.sl, fun i d h => R.slots i d h, fun i c1 h => ?_, R.odis⟩, ⟨n.nf, n.ni, n.no, hc⟩⟩
  obtain ⟨a, e, m1, m2, q⟩ := R.owns i c1 h
  exact ⟨a, e, m1, m2, q.mono hF hio (hH a fun z => n.no ⟨i, c1, h, by rw [← z]; exact e⟩)⟩
end

/-- a target that stores into the slots vs alone -/
structure KG (vs : List Nat) (t : TG) : Prop where
  mono : ∀ v s H (Q Q' : L2.St → Hp → Prop), (∀ s H, Q s H → Q' s H) → t v s H Q → t v s H Q'
  keep : ∀ v s H (Q : L2.St → Hp → Prop), t v s H Q → t v s H fun s2 H2 => L2.wipe s2 vs = L2.wipe s vs ∧ Q s2 H2
structure KGs (vs : List Nat) (t : TGs) : Prop where
  mono : ∀ v s H (Q Q' : L2.St → Hp → Prop), (∀ s H, Q s H → Q' s H) → t v s H Q → t v s H Q'
  keep : ∀ v s H (Q : L2.St → Hp → Prop), t v s H Q → t v s H fun s2 H2 => L2.wipe s2 vs = L2.wipe s vs ∧ Q s2 H2
theorem wipe_set {i : Nat} {x : Option V} : ∀ {vs : List Nat} {s : L2.St}, i ∈ vs → L2.wipe (s.set i x) vs = L2.wipe s vs
  | [], _, h => by simp at h
  | v :: vs, s, h => by
    unfold L2.wipe
    by_cases e : i ∈ vs
    · rw [wipe_set e]
    · have ev : v = i := by
        rcases List.mem_cons.mp h with h | h
        · exact h.symm
        · exact absurd h e
      subst ev
      apply List.ext_getElem?
      intro j
      by_cases hj : v = j
      · subst hj
        by_cases hl : v < s.length
        · rw [List.getElem?_set_self (by rw [wipe_length, List.length_set]; exact hl), List.getElem?_set_self (by rw [wipe_length]; exact hl)]
        · rw [List.getElem?_eq_none (by rw [List.length_set, wipe_length, List.length_set]; omega), List.getElem?_eq_none (by rw [List.length_set, wipe_length]; omega)]
      · rw [List.getElem?_set_ne hj, List.getElem?_set_ne hj]
        have go : ∀ (ws : List Nat), (L2.wipe (s.set v x) ws)[j]? = (L2.wipe s ws)[j]? := fun ws => by
          induction ws with
          | nil => exact List.getElem?_set_ne hj
          | cons w ws ih =>
            unfold L2.wipe
            by_cases hw : w = j
            · subst hw
              by_cases hl : w < s.length
              · rw [List.getElem?_set_self (by rw [wipe_length, List.length_set]; exact hl), List.getElem?_set_self (by rw [wipe_length]; exact hl)]
              · rw [List.getElem?_eq_none (by rw [List.length_set, wipe_length, List.length_set]; omega), List.getElem?_eq_none (by rw [List.length_set, wipe_length]; omega)]
            · rw [List.getElem?_set_ne hw, List.getElem?_set_ne hw, ih]
        exact go vs
theorem wipe_wipe {vs : List Nat} {s : L2.St} : L2.wipe (L2.wipe s vs) vs = L2.wipe s vs := by
  have go : ∀ (ws : List Nat), (∀ x ∈ ws, x ∈ vs) → L2.wipe (L2.wipe s ws) vs = L2.wipe s vs := fun ws => by
    induction ws with
    | nil => intro _; rfl
    | cons w ws ih =>
      intro h
      show L2.wipe ((L2.wipe s ws).set w none) vs = _
      rw [wipe_set (h w (by simp)), ih fun x hx => h x (by simp [hx])]
  exact go vs fun _ h => h
theorem kg_name {i : Nat} {vs : List Nat} (h : i ∈ vs) : KG vs (gName i) := ⟨fun v s H Q Q' m q => m _ _ q, fun v s H Q q => ⟨wipe_set h, q⟩⟩
theorem kgs_nil {vs : List Nat} : KGs vs gNil := ⟨fun v s H Q Q' m q => ⟨q.1, m _ _ q.2⟩, fun v s H Q q => ⟨q.1, rfl, q.2⟩⟩
theorem kgs_cons {vs : List Nat} {t : TG} {u : TGs} (h1 : KG vs t) (h2 : KGs vs u) : KGs vs (gCons t u) :=
  ⟨fun v s H Q Q' m ⟨a, r, e, q⟩ => ⟨a, r, e, h1.mono _ _ _ _ _ (fun s H q => h2.mono _ _ _ _ _ m q) q⟩,
   fun v s H Q ⟨a, r, e, q⟩ => ⟨a, r, e, h1.mono _ _ _ _ _ (fun s1 H1 z => h2.mono _ _ _ _ _ (fun s2 H2 z2 => ⟨z2.1.trans z.1, z2.2⟩) (h2.keep _ _ _ _ z.2)) (h1.keep _ _ _ _ q)⟩⟩
theorem kg_tup {K : PySem.W.Frag} {n : Nat} {vs : List Nat} {u : TGs} (h : KGs vs u) : KG vs (gTup K n u) :=
  ⟨fun v s H Q Q' m ⟨a, xs, e, h1, h2, q⟩ => ⟨a, xs, e, h1, h2, h.mono _ _ _ _ _ m q⟩, fun v s H Q ⟨a, xs, e, h1, h2, q⟩ => ⟨a, xs, e, h1, h2, h.keep _ _ _ _ q⟩⟩
/-- such a target, with its function -/
def MGk (X : Cx) (vs : List Nat) (tg : Expr) (g : GF) : Prop := ∃ t, PG X tg t ∧ TGok X.K t g ∧ KG vs t

theorem tf_lc {K : PySem.W.Frag} {wi : TI} {tg : TG} {tt : TT} {te : TE} {vs : List Nat} {fi : AF} {g : GF} {ft : BF} {fe : EF} (qi : TIok K wi fi) (qg : TGok K tg g) (qt : TTok K tt ft) (qe : TEok K te fe)
    (hw : KG vs tg) : TFok K (tLc wi tg tt te vs) (cLc fi g ft fe vs) := by
  intro S c S' h W s Q R k
  obtain ⟨⟨ds, S1⟩, e1, h⟩ := bind_some h
  obtain ⟨⟨acc, S2⟩, e2, h⟩ := bind_some h
  cases h
  refine qi S ds S1 e1 W s _ R fun J W1 R1 f1 Y => ?_
  intro A hA
  obtain ⟨R1', f1', n1⟩ := R1.newLst (ds := []) hA .nil
  have hA0 : W.H A = none := f1.hp A hA
  refine ⟨fun i m H2 => m = ds.length - i ∧ i ≤ ds.length ∧ ∃ W2 S3 acc2, W2.H = H2 ∧ Rel K W2 S3 s ∧ Fr W1 S1.r s W2 S3.r s ∧ New K W2 S3 s A (.lst acc2) ∧ lcM g ft fe vs (ds.drop i) acc2 S3 = some (acc, S2), ⟨ds.length, rfl, Nat.zero_le _, _, S1, [], rfl, R1', f1', n1, e2⟩, ?_⟩
  rintro i m H2 ⟨rfl, hi, W2, S3, acc2, rfl, R2, f2, n2, e3⟩
  by_cases hlt : i < ds.length
  · have ed : ds[i]? = some ds[i] := List.getElem?_eq_getElem hlt
    obtain ⟨go, yl⟩ := Y.go W2 S3 s R2 f2.fx f2.ix i _ ed
    rw [List.drop_eq_getElem_cons hlt] at e3
    obtain ⟨S4, e4, e3⟩ := bind_some e3
    obtain ⟨⟨b, S5⟩, e5, e3⟩ := bind_some e3
    refine .inr ⟨go, fun H3 => i + 1 ≤ ds.length ∧ ∃ W3 S6 acc3, W3.H = H3 ∧ Rel K W3 S6 s ∧ Fr W1 S1.r s W3 S6.r s ∧ New K W3 S6 s A (.lst acc3) ∧ lcM g ft fe vs (ds.drop (i + 1)) acc3 S6 = some (acc, S2), ?_, fun x H' y => ?_⟩
    · rintro H3 ⟨hl, W3, S6, acc3, rfl, z⟩
      exact ⟨_, by omega, rfl, hl, W3, S6, acc3, rfl, z⟩
    · obtain ⟨W3, rfl, R3, f3, r3⟩ := yl x H' y
      have n3 := n2.keep (S1 := S3) f3
      obtain ⟨Rw, fw⟩ := R3.wipe vs
      refine hw.mono _ _ _ _ _ (fun s2 H2 z => z) (hw.mono _ _ _ (fun s2 H2 => L2.wipe s2 vs = L2.wipe (L2.wipe s vs) vs ∧ (L2.wipe s2 vs = L2.wipe s vs → tt s2 H2 fun b H3 => if b = true then te s2 H3 fun y H4 => ∃ acc, H4 A = some (.lst acc) ∧ acc.length < sizeLine ∧ (i + 1 ≤ ds.length ∧ ∃ W3 S6 acc3, W3.H = upd H4 A (.lst (acc ++ [y])) ∧ Rel K W3 S6 s ∧ Fr W1 S1.r s W3 S6.r s ∧ New K W3 S6 s A (.lst acc3) ∧ lcM g ft fe vs (ds.drop (i + 1)) acc3 S6 = some _) else (i + 1 ≤ ds.length ∧ ∃ W3 S6 acc3, W3.H = H3 ∧ Rel K W3 S6 s ∧ Fr W1 S1.r s W3 S6.r s ∧ New K W3 S6 s A (.lst acc3) ∧ lcM g ft fe vs (ds.drop (i + 1)) acc3 S6 = some _))) _ (fun s2 H2 z => ⟨z.1.trans wipe_wipe, z.2 (z.1.trans wipe_wipe)⟩) (hw.keep _ _ _ _ ?_))
      refine qg _ _ S4 e4 W3 _ x _ Rw r3 fun W4 s4 R4 f4 hs4 => ?_
      refine qt S4 b S5 e5 W4 s4 _ R4 fun W5 R5 f5 => ?_
      have f45 := f4.trans f5
      cases b with
      | false =>
        rw [if_neg Bool.false_ne_true]
        obtain ⟨R6, f6⟩ := R3.rest R5 f45 hs4
        exact ⟨hlt, W5, _, acc2, rfl, R6, (f2.trans f3).trans f6, n3.keep (S1 := { S5 with r := restR S3.r S5.r vs }) f6, e3⟩
      | true =>
        rw [if_pos rfl]
        rw [if_pos rfl] at e3
        obtain ⟨⟨d, S6⟩, e6, e3⟩ := bind_some e3
        simp only at e3
        split at e3
        · rename_i hlim
          refine qe S5 d S6 e6 W5 s4 _ R5 fun y W6 R6 f6 r6 => ?_
          obtain ⟨R7, f7⟩ := R3.rest R6 (f45.trans f6) hs4
          have n7 := n3.keep (S1 := { S6 with r := restR S3.r S6.r vs }) f7
          obtain ⟨vs7, h7, r7⟩ := n7.cr
          refine ⟨vs7, h7, by rw [r7.length]; exact Nat.lt_of_lt_of_le hlim lim_line, hlt, ?_⟩
          obtain ⟨R8, n8⟩ := R7.wrApart (c' := .lst (acc2 ++ [d])) (o := .lst (vs7 ++ [y])) n7 ⟨_, upd_same, r7.append (.cons r6 .nil)⟩
          refine ⟨_, _, acc2 ++ [d], rfl, R8, ?_, n8, e3⟩
          have ff := (f2.trans f3).trans f7
          refine ⟨ff.fx, ff.ix, fun b o h n => ?_, fun b h => ff.hp b (upd_none h)⟩
          obtain ⟨g1, g2⟩ := ff.ot b o h n
          have nb : b ≠ A := fun z => by rw [z, hA] at h; cases h
          exact ⟨by show upd _ A _ b = _; rw [upd_ne nb]; exact g1, g2⟩
        · cases e3
  · have ei : i = ds.length := by omega
    subst ei
    rw [List.drop_length] at e3
    cases e3
    exact .inl ⟨Y.stop W2 _ s R2 f2.fx f2.ix, k A W2 R2 (f1.trans f2) hA0 n2⟩

section
variable {X : Cx} {pos spos : Pos} {elt tg iter : Expr} {ifs : List Expr} {scope : Scope} {vs : List Nat} {own : List (Str × Nat)} {fi : AF} {g : GF} {ft : BF} {fe : EF} {t1 : TG} {t2 : TT} {t3 : TE}
theorem mts_nil : MTs X [] bYes := ⟨_, pts_nil, fun S d S' h W s Q R k => by cases h; exact k W R .refl⟩
theorem mts_one {c : Expr} (h : MT X c ft) : MTs X [c] ft := by
  obtain ⟨t, p, q⟩ := h
  exact ⟨_, pts_one p, q⟩
/-- what is said in the block: for every way the block may stand -/
def Blk (X : Cx) (scope : Scope) (R : Cx → Prop) : Prop := ∀ (s : Shared) (H : Hp) (C : Addr) (cl : List (Str × Addr)) (fp : List Addr), R (X.blk s H scope (compEnvC scope cl C X.env) fp)
/-! one reading for all of them -/
def tOf (K : PySem.W.Frag) (f : EF) : TE := fun s H Q => ∃ S d S' W, W.H = H ∧ Rel K W S s ∧ f S = some (d, S') ∧ ∀ v W', Rel K W' S' s → Fr W S.r s W' S'.r s → RV K W'.F W'.io v d → Q v W'.H
def ttOf (K : PySem.W.Frag) (f : BF) : TT := fun s H Q => ∃ S d S' W, W.H = H ∧ Rel K W S s ∧ f S = some (d, S') ∧ ∀ W', Rel K W' S' s → Fr W S.r s W' S'.r s → Q d W'.H
def tgOf (K : PySem.W.Frag) (vs : List Nat) (g : GF) : TG := fun v s H Q => ∃ d S S' W, W.H = H ∧ Rel K W S s ∧ RV K W.F W.io v d ∧ g d S = some S' ∧ ∀ W' s', L2.wipe s' vs = L2.wipe s vs → Rel K W' S' s' → Fr W S.r s W' S'.r s' → Q s' W'.H
theorem tOf_ok {K : PySem.W.Frag} : TEok K (tOf K fe) fe := fun S d S' h W s Q R k => ⟨S, d, S', W, rfl, R, h, k⟩
theorem ttOf_ok {K : PySem.W.Frag} : TTok K (ttOf K ft) ft := fun S d S' h W s Q R k => ⟨S, d, S', W, rfl, R, h, k⟩
theorem tgOf_ok {K : PySem.W.Frag} {vs : List Nat} : TGok K (tgOf K vs g) g := fun d S S' h W s v Q R r k => ⟨d, S, S', W, rfl, R, r, h, fun W' s' _ => k W' s'⟩
theorem tgOf_k {K : PySem.W.Frag} {vs : List Nat} : KG vs (tgOf K vs g) :=
  ⟨fun v s H Q Q' m ⟨d, S, S', W, e, R, r, h, k⟩ => ⟨d, S, S', W, e, R, r, h, fun W' s' e R' f => m _ _ (k W' s' e R' f)⟩,
   fun v s H Q ⟨d, S, S', W, e, R, r, h, k⟩ => ⟨d, S, S', W, e, R, r, h, fun W' s' e R' f => ⟨e, k W' s' e R' f⟩⟩⟩
theorem ME.pe {e : Expr} (h : ME X e fe) : PE X e (tOf X.K fe) := by
  obtain ⟨t, p, q⟩ := h
  exact ⟨fun pins s σ H Q I ⟨S, d, S', W, e, R, h, k⟩ => p.run pins s σ H Q I (by subst e; exact q S d S' h W σ Q R k)⟩
theorem MTs.pt (h : MTs X ifs ft) : PTs X ifs (ttOf X.K ft) := by
  obtain ⟨t, p, q⟩ := h
  exact ⟨fun pins s σ H Q I ⟨S, d, S', W, e, R, h, k⟩ => p.run pins s σ H Q I (by subst e; exact q S d S' h W σ Q R k)⟩
theorem MGk.pg {vs : List Nat} (h : MGk X vs tg g) : PG X tg (tgOf X.K vs g) := by
  obtain ⟨t, p, q, kg⟩ := h
  refine ⟨fun pins s σ H v u Q I r ⟨d, S, S', W, e, R, rv, h, k⟩ => p.run pins s σ H v u Q I r ?_⟩
  subst e
  refine kg.mono _ _ _ _ _ (fun s' H' z => ?_) (kg.keep _ _ _ _ (q d S S' h W σ v (fun s' H' => ∃ W', W'.H = H' ∧ Rel X.K W' S' s' ∧ Fr W S.r σ W' S'.r s') R rv fun W' s' R' f => ⟨W', rfl, R', f⟩))
  obtain ⟨e, W', rfl, R', f⟩ := z
  exact k W' s' e R' f
theorem mgk_name {x : Str} {xp : Pos} {vs : List Nat} (i : Nat) (hN : X.N.Nodup) (hm : i ∈ vs := by decide) (hi : X.N[i]? = some x := by rfl) (hx : Loc X.env.scope x := by first | exact Or.inl rfl | exact Or.inr rfl) (hf : X.fn x = true ∨ X.env.scope.names.lookup x = some .local := by first | exact .inl rfl | exact .inr rfl) :
    MGk X vs (.Name x xp) (gNm i) := ⟨_, pg_name hN hi hx hf, tg_name, kg_name hm⟩
def MGsk (X : Cx) (vs : List Nat) (tg : List Expr) (g : List D → Ms → Option Ms) : Prop := ∃ t, PGs X tg t ∧ TGsok X.K t g ∧ KGs vs t
theorem mgsk_nil {vs : List Nat} : MGsk X vs [] gsNil := by
  refine ⟨_, pgs_nil, fun d S S' h W s v Q R r k => ?_, kgs_nil⟩
  unfold gsNil at h
  split at h
  · rename_i c
    cases h
    cases r with
    | nil => exact ⟨rfl, k W s R .refl⟩
    | cons _ _ => cases c
  · cases h
theorem mgsk_cons {e : Expr} {es : List Expr} {vs : List Nat} {gs : List D → Ms → Option Ms} (h1 : MGk X vs e g) (h2 : MGsk X vs es gs) (hs : (assignEach (e :: es) X.env).map (·.2) = assign e X.env :: (assignEach es X.env).map (·.2) := by rfl) : MGsk X vs (e :: es) (gsCons g gs) := by
  obtain ⟨t, p, q, kg⟩ := h1
  obtain ⟨u, p', q', kg'⟩ := h2
  refine ⟨_, pgs_cons p p' hs, fun d S S' h W s v Q R r k => ?_, kgs_cons kg kg'⟩
  unfold gsCons at h
  cases r with
  | nil => cases h
  | @cons v vs d ds r1 r2 =>
    obtain ⟨S1, e1, h⟩ := bind_some h
    exact ⟨v, vs, rfl, q d S S1 e1 W s v _ R r1 fun W1 s1 R1 f1 => q' ds S1 S' h W1 s1 vs _ R1 (r2.up f1) fun W2 s2 R2 f2 => k W2 s2 R2 (f1.trans f2)⟩
theorem mgk_tup {es : List Expr} {k n : Nat} {vs : List Nat} {gs : List D → Ms → Option Ms} (hc : X.calm = true) (h : MGsk X vs es gs) (hn : (assignEach es X.env).length = n := by rfl) (hst : (assignEach es X.env).findIdx? (·.1) = none := by rfl) : MGk X vs (.Tuple es k pos) (gTp n gs) := by
  obtain ⟨t, p, q, kg⟩ := h
  refine ⟨_, pg_tup hc p hn hst, fun d S S' h W s v Q R r k => ?_, kg_tup kg⟩
  unfold gTp at h
  split at h
  · split at h
    · rename_i c
      obtain ⟨a, vs, rfl, h1, h2⟩ := r.tup_inv
      exact ⟨a, vs, rfl, sqT_mono R.sub h1, by rw [h2.length]; exact c, q _ S S' h W s vs Q R h2 k⟩
    · cases h
  · cases h
theorem mf_lc (hc : X.calm = true) (hN : X.N.Nodup) (hi : MI X tg iter fi) (ok : BlkOk X.N X.env.scope scope own)
    (hg : Blk X scope fun Y => MGk Y vs tg g) (ht : Blk X scope fun Y => MTs Y ifs ft) (he : Blk X scope fun Y => ME Y elt fe)
    (hvs : own.map (·.2) = vs := by rfl) (hs : ∀ x, foldedSetIterable iter X.env x = pure x := by intro _; rfl) : MF X (.ListComp elt [⟨tg, iter, ifs, 0⟩] scope pos) (cLc fi g ft fe vs) := by
  subst hvs
  obtain ⟨wi, pi, qi⟩ := hi
  exact ⟨_, pe_lc hc hN pi ok (fun s H C cl fp => (hg s H C cl fp).pg) (fun s H C cl fp => (ht s H C cl fp).pt) (fun s H C cl fp => (he s H C cl fp).pe) hs, tf_lc qi tgOf_ok ttOf_ok tOf_ok tgOf_k⟩
theorem te_new {K : PySem.W.Frag} {t : TE} {c : CF} (q : TFok K t c) : TEok K t (eNew c) := by
  intro S d S' h W s Q R k
  obtain ⟨⟨c, S1⟩, e1, h⟩ := bind_some h
  refine q S _ _ e1 W s _ R fun a W1 R1 f1 hp n => ?_
  cases c with
  | lst ds =>
    cases h
    obtain ⟨W2, e2, R2, f2, r⟩ := R1.freezeLst f1 hp n
    rw [← e2]
    exact k _ W2 R2 f2 r
  | dct ds =>
    cases h
    obtain ⟨W2, e2, R2, f2, r⟩ := R1.freezeDct f1 hp n
    rw [← e2]
    exact k _ W2 R2 f2 r
  | obj C fs => cases h
  | dT ds => cases h
theorem ts_val {K : PySem.W.Frag} {i : Nat} {t : TE} (q : TEok K t fe) : TSok K (tAsg t (gName i)) (sAsg fe (gNm i)) := by
  intro S fl S' h W s D R k
  obtain ⟨⟨d1, S1⟩, e1, h⟩ := bind_some h
  obtain ⟨S2, e2, h⟩ := bind_some h
  cases h
  exact q S _ _ e1 W s _ R fun v W1 R1 f1 r1 => tg_name (i := i) d1 S1 _ e2 W1 s v _ R1 r1 fun W2 s2 R2 f2 => k W2 s2 R2 (f1.trans f2)
variable {y : Str} {py : Pos}
theorem ps_lc (i : Nat) (hc : X.calm = true) (hN : X.N.Nodup) (hi : MI X tg iter fi) (ok : BlkOk X.N X.env.scope scope own)
    (hg : Blk X scope fun Y => MGk Y vs tg g) (ht : Blk X scope fun Y => MTs Y ifs ft) (he : Blk X scope fun Y => ME Y elt fe)
    (hsw : swapsWith (.ListComp elt [⟨tg, iter, ifs, 0⟩] scope pos) (some (.Name y py)) spos.line X.env = pure true) (hy : X.N[i]? = some y) (hyl : X.env.scope.names.lookup y = some .local)
    (hvs : own.map (·.2) = vs) (hs : ∀ x, foldedSetIterable iter X.env x = pure x) : ∃ t, PS X (.Assign [.Name y py] (.ListComp elt [⟨tg, iter, ifs, 0⟩] scope pos) spos) (tAsg t (gName i)) ∧ TFok X.K t (cLc fi g ft fe vs) := by
  subst hvs
  obtain ⟨wi, pi, qi⟩ := hi
  exact ⟨_, ps_setLc hc hN hy hyl hsw pi ok (fun s H C cl fp => (hg s H C cl fp).pg) (fun s H C cl fp => (ht s H C cl fp).pt) (fun s H C cl fp => (he s H C cl fp).pe) hs, tf_lc qi tgOf_ok ttOf_ok tOf_ok tgOf_k⟩
theorem ms_setLc (i : Nat) (hc : X.calm = true) (hN : X.N.Nodup) (hi : MI X tg iter fi) (ok : BlkOk X.N X.env.scope scope own)
    (hg : Blk X scope fun Y => MGk Y vs tg g) (ht : Blk X scope fun Y => MTs Y ifs ft) (he : Blk X scope fun Y => ME Y elt fe)
    (hsw : swapsWith (.ListComp elt [⟨tg, iter, ifs, 0⟩] scope pos) (some (.Name y py)) spos.line X.env = pure true) (hy : X.N[i]? = some y := by rfl) (hyl : X.env.scope.names.lookup y = some .local := by rfl)
    (hvs : own.map (·.2) = vs := by rfl) (hs : ∀ x, foldedSetIterable iter X.env x = pure x := by intro _; rfl) : MS X (.Assign [.Name y py] (.ListComp elt [⟨tg, iter, ifs, 0⟩] scope pos) spos) (sAsg (eNew (cLc fi g ft fe vs)) (gNm i)) := by
  obtain ⟨t, p, q⟩ := ps_lc i hc hN hi ok hg ht he hsw hy hyl hvs hs
  exact ⟨_, p, ts_val (te_new q)⟩
theorem ms_ownLc (i : Nat) (hc : X.calm = true) (hN : X.N.Nodup) (hi : MI X tg iter fi) (ok : BlkOk X.N X.env.scope scope own)
    (hg : Blk X scope fun Y => MGk Y vs tg g) (ht : Blk X scope fun Y => MTs Y ifs ft) (he : Blk X scope fun Y => ME Y elt fe)
    (hsw : swapsWith (.ListComp elt [⟨tg, iter, ifs, 0⟩] scope pos) (some (.Name y py)) spos.line X.env = pure true) (hy : X.N[i]? = some y := by rfl) (hyl : X.env.scope.names.lookup y = some .local := by rfl)
    (hvs : own.map (·.2) = vs := by rfl) (hs : ∀ x, foldedSetIterable iter X.env x = pure x := by intro _; rfl) : MS X (.Assign [.Name y py] (.ListComp elt [⟨tg, iter, ifs, 0⟩] scope pos) spos) (sOwn i (cLc fi g ft fe vs)) := by
  obtain ⟨t, p, q⟩ := ps_lc i hc hN hi ok hg ht he hsw hy hyl hvs hs
  exact ⟨_, p, ts_own q⟩
theorem ms_cellLc (i : Nat) (hc : X.calm = true) (hN : X.N.Nodup) (hi : MI X tg iter fi) (ok : BlkOk X.N X.env.scope scope own)
    (hg : Blk X scope fun Y => MGk Y vs tg g) (ht : Blk X scope fun Y => MTs Y ifs ft) (he : Blk X scope fun Y => ME Y elt fe)
    (hsw : swapsWith (.ListComp elt [⟨tg, iter, ifs, 0⟩] scope pos) (some (.Name y py)) spos.line X.env = pure true) (hy : X.N[i]? = some y := by rfl) (hyl : X.env.scope.names.lookup y = some .local := by rfl)
    (hvs : own.map (·.2) = vs := by rfl) (hs : ∀ x, foldedSetIterable iter X.env x = pure x := by intro _; rfl) : MS X (.Assign [.Name y py] (.ListComp elt [⟨tg, iter, ifs, 0⟩] scope pos) spos) (sCell i (cLc fi g ft fe vs)) := by
  obtain ⟨t, p, q⟩ := ps_lc i hc hN hi ok hg ht he hsw hy hyl hvs hs
  exact ⟨_, p, ts_cell q⟩
end
end M

/-! M5: chains of comparisons, in, slices of every kind, defs in short, the law's end. -/
namespace M
open PySem PySem.Spec L2

/-! ### a < b < c -/
def eChain (g g' : D → D → Option D) (a b c : EF) : EF := fun S => (a S).bind fun p => (b p.2).bind fun q => (g (vw q.2 p.1) (vw q.2 q.1)).bind fun z => match z with
  | .bl true => (c q.2).bind fun r => (g' (vw r.2 q.1) (vw r.2 r.1)).bind fun z => some (z, r.2)
  | .bl false => some (.bl false, q.2)
  | _ => none
section
variable {X : Cx} {pos p2 : Pos} {a b c e : Expr} {fa fb fc : EF} {g g' : D → D → Option D} {op op' : CmpOp}
theorem te_chain {K : PySem.W.Frag} {r r' : R2} {ta tb tc : TE} (h : ∀ x y d e z, g d e = some z → ∀ W S s (Q : VK), Rel K W S s → RH K W x d → RH K W y e → (∀ v W', Rel K W' S s → Fr W S.r s W' S.r s → RV K W'.F W'.io v z → Q v W'.H) → r x y W.H Q)
    (h' : ∀ x y d e z, g' d e = some z → ∀ W S s (Q : VK), Rel K W S s → RH K W x d → RH K W y e → (∀ v W', Rel K W' S s → Fr W S.r s W' S.r s → RV K W'.F W'.io v z → Q v W'.H) → r' x y W.H Q)
    (ha : TEok K ta fa) (hb : TEok K tb fb) (hc : TEok K tc fc) : TEok K (tChain r r' ta tb tc) (eChain g g' fa fb fc) := by
  intro S d S' q W s Q R k
  obtain ⟨⟨d1, S1⟩, e1, q⟩ := bind_some q
  obtain ⟨⟨d2, S2⟩, e2, q⟩ := bind_some q
  obtain ⟨z, e3, q⟩ := bind_some q
  refine ha S d1 S1 e1 W s _ R fun x W1 R1 f1 q1 => ?_
  refine hb S1 d2 S2 e2 W1 s _ R1 fun y W2 R2 f2 q2 => ?_
  refine h x y _ _ z e3 W2 S2 s _ R2 (R2.vw (q1.up f2)) (R2.vw q2) fun v W3 R3 f3 q3 => ?_
  simp only at q
  split at q
  · obtain ⟨⟨d3, S3⟩, e4, q⟩ := bind_some q
    obtain ⟨z', e5, q⟩ := bind_some q
    cases q
    refine ⟨true, q3.bl_inv, ?_⟩
    rw [if_pos rfl]
    refine hc S2 d3 S3 e4 W3 s _ R3 fun w W4 R4 f4 q4 => ?_
    exact h' y w _ _ _ e5 W4 S3 s Q R4 (R4.vw ((q2.up f3).up f4)) (R4.vw q4) fun v W5 R5 f5 q5 => k v W5 R5 ((((f1.trans f2).trans f3).trans f4).trans f5) q5
  · cases q
    refine ⟨false, q3.bl_inv, ?_⟩
    rw [if_neg Bool.false_ne_true]
    exact k _ W3 R3 ((f1.trans f2).trans f3) (.bl _)
  · cases q
theorem me_chain (ho : OpM X (compareOp op) g) (ho' : OpM X (compareOp op') g') (ha : ME X a fa) (hb : ME X b fb) (hc : ME X c fc) (hm : lastMarks [op, op'] [b, c] = false := by with_unfolding_all rfl) :
    ME X (.Compare a [op, op'] [b, c] pos) (eChain g g' fa fb fc) := by
  obtain ⟨r, h1, h2⟩ := ho
  obtain ⟨r', h1', h2'⟩ := ho'
  obtain ⟨ta, p1, q1⟩ := ha
  obtain ⟨tb, p2, q2⟩ := hb
  obtain ⟨tc, p3, q3⟩ := hc
  exact ⟨_, pe_chain h1 h1' p1 p2 p3 hm, te_chain h2 h2' q1 q2 q3⟩
theorem mt_chain (ho : OpM X (compareOp op) g) (ho' : OpM X (compareOp op') g') (ha : ME X a fa) (hb : ME X b fb) (hc : ME X c fc) (hm : lastMarks [op, op'] [b, c] = false := by with_unfolding_all rfl) :
    MT X (.Compare a [op, op'] [b, c] pos) (bOf (eChain g g' fa fb fc)) := by
  obtain ⟨r, h1, h2⟩ := ho
  obtain ⟨r', h1', h2'⟩ := ho'
  obtain ⟨ta, p1, q1⟩ := ha
  obtain ⟨tb, p2, q2⟩ := hb
  obtain ⟨tc, p3, q3⟩ := hc
  exact ⟨_, pt_chain h1 h1' p1 p2 p3 hm, tt_of (te_chain h2 h2' q1 q2 q3)⟩
end

/-! ### operands that are only seen -/
section
variable {X : Cx} {pos xp : Pos} {a b : Expr} {fa fb : EF} {g : D → D → Option D} {x : Str}
theorem me_opLv {op : Operator} (i : Nat) (ho : OpM X (binaryOp op) g) (hb : ME X b fb) (hN : X.N[i]? = some x := by rfl) (hv : Vis X.env.scope x := by first | exact Or.inl rfl | exact Or.inr (Or.inl rfl) | exact Or.inr (Or.inr rfl))
    (hd : (x == ("__debug__" : Str)) = false := by decide) (hcd : (x == ("__classdict__" : Str)) = false := by decide) : ME X (.BinOp (.Name x xp) op b pos) (eOpL g i fb) := by
  obtain ⟨r, h1, h2⟩ := ho
  obtain ⟨tb, p2, q2⟩ := hb
  exact ⟨_, pe_op h1 (pe_var hN hv hd hcd) p2, te_opL h2 q2⟩
theorem me_opRv {op : Operator} (j : Nat) (ho : OpM X (binaryOp op) g) (ha : ME X a fa) (hN : X.N[j]? = some x := by rfl) (hv : Vis X.env.scope x := by first | exact Or.inl rfl | exact Or.inr (Or.inl rfl) | exact Or.inr (Or.inr rfl))
    (hd : (x == ("__debug__" : Str)) = false := by decide) (hcd : (x == ("__classdict__" : Str)) = false := by decide) : ME X (.BinOp a op (.Name x xp) pos) (eOpR g fa j) := by
  obtain ⟨r, h1, h2⟩ := ho
  obtain ⟨ta, p1, q1⟩ := ha
  exact ⟨_, pe_op h1 p1 (pe_var hN hv hd hcd), te_opR h2 q1⟩
theorem me_cmpL {op : CmpOp} (i : Nat) (ho : OpM X (compareOp op) g) (hb : ME X b fb) (hN : X.N[i]? = some x := by rfl) (hv : Vis X.env.scope x := by first | exact Or.inl rfl | exact Or.inr (Or.inl rfl) | exact Or.inr (Or.inr rfl))
    (hm : behindInMarks op b = false := by first | exact nomark _ | rfl) (hd : (x == ("__debug__" : Str)) = false := by decide) (hcd : (x == ("__classdict__" : Str)) = false := by decide) : ME X (.Compare (.Name x xp) [op] [b] pos) (eOpL g i fb) := by
  obtain ⟨r, h1, h2⟩ := ho
  obtain ⟨tb, p2, q2⟩ := hb
  exact ⟨_, pe_cmpR h1 (pe_var hN hv hd hcd) p2 hm, te_opL h2 q2⟩
theorem mt_cmpL {op : CmpOp} (i : Nat) (ho : OpM X (compareOp op) g) (hb : ME X b fb) (hN : X.N[i]? = some x := by rfl) (hv : Vis X.env.scope x := by first | exact Or.inl rfl | exact Or.inr (Or.inl rfl) | exact Or.inr (Or.inr rfl))
    (hm : behindInMarks op b = false := by first | exact nomark _ | rfl) (hd : (x == ("__debug__" : Str)) = false := by decide) (hcd : (x == ("__classdict__" : Str)) = false := by decide) : MT X (.Compare (.Name x xp) [op] [b] pos) (bOf (eOpL g i fb)) := by
  obtain ⟨r, h1, h2⟩ := ho
  obtain ⟨tb, p2, q2⟩ := hb
  exact ⟨_, pt_cmpR h1 (pe_var hN hv hd hcd) p2 hm, tt_of (te_opL h2 q2)⟩
end

/-! ### x in xs, flat items -/
def flatD : D → Bool
  | .non | .bl _ | .int _ | .str _ => true
  | _ => false
def eqF (d e : D) : Bool := match toPy d, toPy e with
  | some p, some q => PyData.eqv p q
  | _, _ => false
def gInF (neg : Bool) (d e : D) : Option D := match e with
  | .lst ds | .tup ds => if flatD d = true ∧ ds.all flatD = true then some (.bl (if neg then !(ds.any fun y => eqF y d) else ds.any fun y => eqF y d)) else none
  | _ => none
def gInL (neg : Bool) (d e : D) : Option D := match e with
  | .lst ds => (toPy d).bind fun p => (toPys ds).bind fun ps => if SeqAt.shaped p = true ∧ SeqAt.shaped (.list ps) = true then some (.bl (if neg then !(ps.any fun z => PyData.eqv z p) else ps.any fun z => PyData.eqv z p)) else none
  | _ => none
def gInT (neg : Bool) (d e : D) : Option D := match e with
  | .tup ds => if flatD d = true ∧ ds.all flatD = true then some (.bl (if neg then !(ds.any fun y => eqF y d) else ds.any fun y => eqF y d)) else none
  | _ => none
def gIn (neg : Bool) (d e : D) : Option D := (gInL neg d e).or (gInT neg d e)
section
variable {X : Cx} {K : PySem.W.Frag} {F : Hp} {io : List Addr}
theorem eqF_ok {x y : V} {d e : D} (rx : RV K F io x d) (ry : RV K F io y e) (hd : flatD d = true) (he : flatD e = true) : flatV x = true ∧ eqV y x = eqF e d := by
  cases rx <;> cases ry <;> first
    | (cases hd; done)
    | (cases he; done)
    | (refine ⟨rfl, ?_⟩; simp [eqV, eqF, toPy, PyData.eqv]; done)
    | (refine ⟨rfl, ?_⟩; rename_i a b; cases a <;> simp [eqV, eqF, toPy, PyData.eqv]; done)
    | (refine ⟨rfl, ?_⟩; rename_i a b; cases b <;> simp [eqV, eqF, toPy, PyData.eqv]; done)
theorem flat_of {x : V} {d : D} (r : RV K F io x d) (h : flatD d = true) : flatV x = true := by
  cases r <;> first | rfl | cases h
theorem flats_of : ∀ {xs : List V} {ds : List D}, RVs K F io xs ds → ds.all flatD = true → xs.all flatV = true
  | _, _, .nil, _ => rfl
  | _, _, .cons h t, e => by
    simp only [List.all_cons, Bool.and_eq_true] at e ⊢
    exact ⟨flat_of h e.1, flats_of t e.2⟩
theorem any_of {x : V} {d : D} (r : RV K F io x d) (h : flatD d = true) : ∀ {xs : List V} {ds : List D}, RVs K F io xs ds → ds.all flatD = true → inV x xs = ds.any fun y => eqF y d
  | _, _, .nil, _ => rfl
  | _, _, @RVs.cons _ _ _ v vs e es hv t, he => by
    simp only [List.all_cons, Bool.and_eq_true] at he
    show (eqV v x || inV x vs) = (eqF e d || es.any fun y => eqF y d)
    rw [(eqF_ok r hv h he.1).2, any_of r h t he.2]
theorem oInL (hu : X.A.units + 65 < cLine) : OpM X (compareOp .In) (gInL false) := by
  refine ⟨_, op_inD hu, fun x y d e z hz W S s Q R rx ry k => ?_⟩
  unfold gInL at hz
  split at hz
  · obtain ⟨p, hp, hz⟩ := bind_some hz
    obtain ⟨ps, hps, hz⟩ := bind_some hz
    split at hz
    · rename_i c
      cases hz
      exact ⟨p, ps, rh_dp R rx hp, rh_dp R ry (by simp only [toPy, hps]; rfl), c.1, c.2, k _ W R .refl (.bl _)⟩
    · cases hz
  · cases hz
theorem oNotInL (hu : X.A.units + 65 < cLine) : OpM X (compareOp .NotIn) (gInL true) := by
  refine ⟨_, op_notInD hu, fun x y d e z hz W S s Q R rx ry k => ?_⟩
  unfold gInL at hz
  split at hz
  · obtain ⟨p, hp, hz⟩ := bind_some hz
    obtain ⟨ps, hps, hz⟩ := bind_some hz
    split at hz
    · rename_i c
      cases hz
      exact ⟨p, ps, rh_dp R rx hp, rh_dp R ry (by simp only [toPy, hps]; rfl), c.1, c.2, k _ W R .refl (.bl _)⟩
    · cases hz
  · cases hz
theorem rh_flat {W : Wd} {x : V} {d : D} (h : RH K W x d) (f : flatD d = true) : RV K W.F W.io x d := by
  cases d <;> first | exact h | cases f
theorem oInT : OpM X (compareOp .In) (gInT false) := by
  refine ⟨_, op_in_seq, fun x y d e z hz W S s Q R rx ry k => ?_⟩
  unfold gInT at hz
  split at hz
  · split at hz
    · rename_i c
      cases hz
      obtain ⟨a, vs, rfl, h1, h2⟩ := RV.tup_inv ry
      have rd := rh_flat rx c.1
      refine ⟨a, vs, rfl, .inr (sqT_mono R.sub h1), flat_of rd c.1, flats_of h2 c.2, ?_⟩
      rw [any_of rd c.1 h2 c.2]
      exact k _ W R .refl (.bl _)
    · cases hz
  · cases hz
theorem oNotInT : OpM X (compareOp .NotIn) (gInT true) := by
  refine ⟨_, op_notIn_seq, fun x y d e z hz W S s Q R rx ry k => ?_⟩
  unfold gInT at hz
  split at hz
  · split at hz
    · rename_i c
      cases hz
      obtain ⟨a, vs, rfl, h1, h2⟩ := RV.tup_inv ry
      have rd := rh_flat rx c.1
      refine ⟨a, vs, rfl, .inr (sqT_mono R.sub h1), flat_of rd c.1, flats_of h2 c.2, ?_⟩
      rw [any_of rd c.1 h2 c.2]
      exact k _ W R .refl (.bl _)
    · cases hz
  · cases hz
theorem oIn (hu : X.A.units + 65 < cLine) : OpM X (compareOp .In) (gIn false) := (oInL hu).or oInT
theorem oNotIn (hu : X.A.units + 65 < cLine) : OpM X (compareOp .NotIn) (gIn true) := (oNotInL hu).or oNotInT
end
theorem u65 {k : Nat} {A : Around} (r : Room k A) : A.units + 65 < cLine := by have := r.un; omega

/-! ### slices of every kind, the list's frozen -/
def gSl3 (d : D) (lo hi : Option Int) : Option D := match d with
  | .lst ds => some (.lst (cutD ds lo hi))
  | .sc ds => some (.lst (cutD ds lo hi))
  | .tup ds => some (.tup (cutD ds lo hi))
  | .str z => if z.length ≤ LIM then some (.str (cutS z lo hi)) else none
  | _ => none
def eSl3 (f : EF) (l h : OF) : EF := fun S => (f S).bind fun p => (l p.2).bind fun q => (h q.2).bind fun r => (gSl3 (vw r.2 p.1) q.1 r.1).bind fun z => some (z, r.2)
section
variable {X : Cx} {pos p2 : Pos} {e : Expr} {lo hi : Option Expr} {f : EF} {l h : OF}
theorem me_sl3 (he : ME X e f) (hl : MO X lo l) (hh : MO X hi h) : ME X (.Subscript e (.Slice lo hi none p2) pos) (eSl3 f l h) := by
  obtain ⟨t, p, q⟩ := he
  obtain ⟨tl, pl, ql⟩ := hl
  obtain ⟨th, ph, qh⟩ := hh
  refine ⟨_, pe_slice (sl_list.or (sl_tupA.or sl_str)) p pl ph, fun S d S' hz W s Q R k => ?_⟩
  obtain ⟨⟨d1, S1⟩, e1, hz⟩ := bind_some hz
  obtain ⟨⟨d2, S2⟩, e2, hz⟩ := bind_some hz
  obtain ⟨⟨d3, S3⟩, e3, hz⟩ := bind_some hz
  obtain ⟨z, e4, hz⟩ := bind_some hz
  cases hz
  refine q S _ _ e1 W s _ R fun v W1 R1 f1 r1 => ?_
  refine ql S1 _ _ e2 W1 s _ R1 fun W2 R2 f2 => ?_
  refine qh S2 _ _ e3 W2 s _ R2 fun W3 R3 f3 => ?_
  have r3 := R3.vw ((r1.up f2).up f3)
  have ff := (f1.trans f2).trans f3
  simp only at e4
  generalize vw S3 d1 = w at e4 r3
  unfold gSl3 at e4
  split at e4
  · cases e4
    obtain ⟨a, vs, rfl, h1, h2⟩ := r3
    refine .inl ⟨a, vs, rfl, .of h1, fun p hp => ?_⟩
    obtain ⟨R4, f4⟩ := R3.al (o := .lst (cutV vs d2 d3)) hp
    exact k _ _ R4 (ff.trans f4) (.lst upd_same ((cut_rv h2 _ _).up f4))
  · cases e4
    obtain ⟨a, vs, rfl, h1, h2⟩ := RV.sc_inv r3
    refine .inl ⟨a, vs, rfl, sqL_mono R3.sub h1, fun p hp => ?_⟩
    obtain ⟨R4, f4⟩ := R3.al (o := .lst (cutV vs d2 d3)) hp
    exact k _ _ R4 (ff.trans f4) (.lst upd_same ((cut_rv h2 _ _).up f4))
  · cases e4
    obtain ⟨a, vs, rfl, h1, h2⟩ := RV.tup_inv r3
    refine .inr (.inl ⟨a, vs, rfl, sqT_mono R3.sub h1, fun w => ?_, fun _ p hp => ?_⟩)
    · refine k _ W3 R3 ff (.tup h1 ?_)
      have e : cutV vs d2 d3 = vs := by unfold cutV; rw [w.1, w.2]; simp
      rw [← e]
      exact cut_rv h2 _ _
    · obtain ⟨R4, f4⟩ := R3.al (o := .tup (cutV vs d2 d3)) hp
      exact k _ _ R4 (ff.trans f4) (.tup (.of upd_same) ((cut_rv h2 _ _).up f4))
  · split at e4
    · rename_i c
      cases e4
      exact .inr (.inr ⟨_, RV.str_inv r3, Nat.le_trans c lim_line, k _ W3 R3 ff (.str _)⟩)
    · cases e4
  · cases e4
end

/-! ### defs in short -/
structure Fnn (P : Program) (w : World) (K : PySem.W.Frag) (mg : Str → Option Value) (base : Heap) (k : Nat) (x : Str) (ps : List Str) (ff : FF) : Prop where
  ex : ∃ (f : Addr) (fd : FuncData), FnOk P w K mg base CX0 k f fd ps (spM K ps.length ff) ∧ mg x = some (.ref f) ∧ PySem.W.keepIn K (.ref f) = true ∧ Binds K fd ps []
section
variable {X : Cx} {k n : Nat} {ps : List Str} {ff gg : FF} {x : Str} {p pos : Pos} {e : Expr} {es : List Expr} {fa : AF}
theorem me_f (G : Fnn X.prog X.w X.K X.mg X.base k x ps ff) (hr : Room k X.A) (ha : MA X (e :: es) fa)
    (hn : ps.length = n := by rfl) (hg : Gl X x := by rfl) (hdb : (x == ("__debug__" : Str)) = false := by decide) (he : starEach (e :: es) X.env = (false, eval e X.env) :: starEach es X.env := by rfl) (hpl : (backTo pos (starEach es X.env)).any (·.1) = false := by rfl) :
    ME X (.Call (.Name x p) (e :: es) [] pos) (eFn n ff fa) := by
  obtain ⟨f, fd, G, hm, hk, hb⟩ := G.ex
  rw [hn] at G
  exact me_fn G hr hm hk hb ha hg hdb he hpl
theorem me_f0 (G : Fnn X.prog X.w X.K X.mg X.base k x [] ff) (hr : Room k X.A) (hg : Gl X x := by rfl) (hdb : (x == ("__debug__" : Str)) = false := by decide) : ME X (.Call (.Name x p) [] [] pos) (eFn 0 ff aNil) := by
  obtain ⟨f, fd, G, hm, hk, hb⟩ := G.ex
  exact me_fn0 G hr hm hk hb hg hdb
theorem Fnn.imp {P : Program} {w : World} {K : PySem.W.Frag} {mg : Str → Option Value} {base : Heap} (G : Fnn P w K mg base k x ps ff) (h : ∀ ds m d m', gg ds m = some (d, m') → ff ds m = some (d, m')) : Fnn P w K mg base k x ps gg := by
  obtain ⟨f, fd, G, r⟩ := G.ex
  exact ⟨f, fd, G.imp (spM_imp h), r⟩
end
section
variable {P : Program} {w : World} {K : PySem.W.Frag} {mg : Str → Option Value} {base : Heap}
theorem fnn {x qual : Str} {st : Stmt} {f : Addr} {fd : FuncData} {N ps : List Str} {k : Nat} {b : SF} (F : Fun K x qual st f fd) (hm : mg x = some (.ref f)) (S : FnScope N ps (defScope st))
    (hbi : ∀ (kV doc pm : Value) (an : Option Addr) (cdv ct : Value) (us : List Value), us.length = ps.length → bindArgs (PySem.W.fnOf x qual (defArgs st) (defBody st) (defScope st) .none kV doc pm an cdv ct) ⟨us, []⟩ = pure (ps.zip us))
    (hb : ∀ (cdv : Value) (A : Around) (outer : List Env) (s : Shared) (H : Hp) (E : XK), Room k (A.deeper (PyProof.Rows.envOfC qual (defScope st) s.heap.objs.size f cdv)) →
      MSs (cxOf CX0 P w K mg base N qual (defScope st) f cdv A outer s H E).nox (defBody st) b) : Fnn P w K mg base (k + 1) x ps (fnM N.length b) :=
  ⟨f, fd, fn_ok F S hb, hm, F.kp, F.binds hbi⟩
/-- the law's own: what is asked of the machine is that it gives True -/
theorem law_sp {K : PySem.W.Frag} {H : Hp} {a : Addr} {ns : List Int} {ff : FF} {m' : List Cell} (hS : SqL K H a (ns.map V.int)) (h : ff [.sc (ns.map D.int)] [] = some (.bl true, m')) {E : XK} : spM K 1 ff [.ref a] H (fun v _ => v = .bl true) E :=
  ⟨rfl, ⟨H, H, []⟩, [.sc (ns.map D.int)], [], .bl true, m', rfl, ⟨fun _ _ h => h, List.nodup_nil, fun a h => by simp at h, rfl, fun k c a h => by simp at h, rfl, fun i d h => by simp at h, fun i c h => by simp at h, fun i j c c' a h => by simp at h⟩,
    .cons (.sc hS (RVs.ints ns)) .nil, h, fun v W' _ _ r => r.bl_inv⟩
end
end M

/-! M6: the machine's functions, applied to a state: rows for simp. -/
namespace M
open PySem PySem.Spec L2
section
variable {S : Ms} {f g h : EF} {a b : AF} {t u : BF} {p q : SF} {G : GF} {c : CF} {i j n : Nat} {d e : D} {o : D → D → Option D} {k : D → Option D}
@[simp] theorem sNil_ap : sNil S = some (.nx, S) := rfl
@[simp] theorem sBk_ap : sBk S = some (.bk, S) := rfl
@[simp] theorem sCt_ap : sCt S = some (.ct, S) := rfl
@[simp] theorem sRetN_ap : sRetN S = some (.rt .non, S) := rfl
@[simp] theorem sSeq_ap : sSeq p q S = (p S).bind fun x => match x.1 with | .nx => q x.2 | fl => some (fl, x.2) := rfl
@[simp] theorem sExpr_ap : sExpr f S = (f S).bind fun x => some (.nx, x.2) := rfl
@[simp] theorem sRet_ap : sRet f S = (f S).bind fun x => some (.rt x.1, x.2) := rfl
@[simp] theorem sIf_ap : sIf t p q S = (t S).bind fun x => if x.1 then p x.2 else q x.2 := rfl
@[simp] theorem sAsg_ap : sAsg f G S = (f S).bind fun x => (G x.1 x.2).bind fun S' => some (.nx, S') := rfl
@[simp] theorem sOwn_ap : sOwn i c S = (c S).bind fun x => some (.nx, ⟨x.2.r.set i (.own x.1), x.2.m⟩) := rfl
@[simp] theorem sCell_ap : sCell i c S = (c S).bind fun x => some (.nx, ⟨x.2.r.set i (.val (.ref x.2.m.length)), x.2.m ++ [x.1]⟩) := rfl
@[simp] theorem sFor_ap : sFor a G p S = (a S).bind fun x => forM G p x.1 x.2 := rfl
theorem sWhile_ap : sWhile t p S = whileM t p WMAX S := rfl
@[simp] theorem gNm_ap : gNm i d S = some ⟨S.r.set i (.val d), S.m⟩ := rfl
@[simp] theorem gTp_tup {ds : List D} {gs : List D → Ms → Option Ms} : gTp n gs (.tup ds) S = if ds.length = n then gs ds S else none := rfl
@[simp] theorem gsNil_ap : gsNil [] S = some S := rfl
@[simp] theorem gsCons_ap {ds : List D} {gs : List D → Ms → Option Ms} : gsCons G gs (d :: ds) S = (G d S).bind fun S1 => gs ds S1 := rfl
@[simp] theorem eC_ap : eC d S = some (d, S) := rfl
@[simp] theorem eVar_ap : eVar i S = match S.r[i]? with
  | some (.val d) => some (d, S)
  | some (.own (.lst ds)) => some (.lst ds, ⟨S.r.set i (.val (.lst ds)), S.m⟩)
  | some (.own (.dct ds)) => some (.dct ds, ⟨S.r.set i (.val (.dct ds)), S.m⟩)
  | _ => none := rfl
@[simp] theorem sees_ap : sees i S = match S.r[i]? with
  | some (.val d) => some (vw S d)
  | some (.own (.lst ds)) => some (.lst ds)
  | some (.own (.dct kds)) => some (.dct kds)
  | _ => none := rfl
@[simp] theorem held_ap : held i S = match S.r[i]? with
  | some (.val _) => true
  | some (.own _) => true
  | _ => false := rfl
@[simp] theorem vw_non : vw S .non = .non := rfl
@[simp] theorem vw_bl {x} : vw S (.bl x) = .bl x := rfl
@[simp] theorem vw_int {x} : vw S (.int x) = .int x := rfl
@[simp] theorem vw_str {x} : vw S (.str x) = .str x := rfl
@[simp] theorem vw_tup {x} : vw S (.tup x) = .tup x := rfl
@[simp] theorem vw_lst {x} : vw S (.lst x) = .lst x := rfl
@[simp] theorem vw_sc {x} : vw S (.sc x) = .sc x := rfl
@[simp] theorem vw_dct {x} : vw S (.dct x) = .dct x := rfl
@[simp] theorem vw_ref {x} : vw S (.ref x) = match S.m[x]? with
    | some (.lst ds) => .lst ds
    | some (.dct kds) => .dct kds
    | _ => .ref x := rfl
@[simp] theorem eOp_ap : eOp o f g S = (f S).bind fun x => (g x.2).bind fun y => (o (vw y.2 x.1) (vw y.2 y.1)).bind fun z => some (z, y.2) := rfl
@[simp] theorem eOpL_ap : eOpL o i f S = if held i S then (f S).bind fun y => (sees i y.2).bind fun x => (o x (vw y.2 y.1)).bind fun z => some (z, y.2) else none := rfl
@[simp] theorem eOpR_ap : eOpR o f j S = (f S).bind fun x => (sees j x.2).bind fun y => (o (vw x.2 x.1) y).bind fun z => some (z, x.2) := rfl
@[simp] theorem bOf_ap : bOf f S = (f S).bind fun x => match x.1 with | .bl b => some (b, x.2) | _ => none := rfl
@[simp] theorem bTru_ap : bTru f S = (f S).bind fun x => (gTru (vw x.2 x.1)).bind fun b => some (b, x.2) := rfl
@[simp] theorem bTruV_ap : bTruV i S = (sees i S).bind fun x => (gTru x).bind fun b => some (b, S) := rfl
@[simp] theorem bAnd_ap : bAnd t u S = (t S).bind fun x => if x.1 then u x.2 else some (false, x.2) := rfl
@[simp] theorem bOr_ap : bOr t u S = (t S).bind fun x => if x.1 then some (true, x.2) else u x.2 := rfl
@[simp] theorem bNot_ap : bNot t S = (t S).bind fun x => some (!x.1, x.2) := rfl
@[simp] theorem bYes_ap : bYes S = some (true, S) := rfl
@[simp] theorem eAnd_ap : eAnd f g S = (f S).bind fun x => match x.1 with | .bl true => g x.2 | .bl false => some (.bl false, x.2) | _ => none := rfl
@[simp] theorem eOr_ap : eOr f g S = (f S).bind fun x => match x.1 with | .bl true => some (.bl true, x.2) | .bl false => g x.2 | _ => none := rfl
@[simp] theorem eNot_ap : eNot f S = (f S).bind fun x => match x.1 with | .bl b => some (.bl (!b), x.2) | _ => none := rfl
@[simp] theorem eIf_ap : eIf t f g S = (t S).bind fun x => if x.1 then f x.2 else g x.2 := rfl
@[simp] theorem eUn_ap : eUn k f S = (f S).bind fun x => (k x.1).bind fun z => some (z, x.2) := rfl
@[simp] theorem aNil_ap : aNil S = some ([], S) := rfl
@[simp] theorem aCons_ap : aCons f a S = (f S).bind fun x => (a x.2).bind fun y => some (x.1 :: y.1, y.2) := rfl
@[simp] theorem eTup_ap : eTup a S = (a S).bind fun x => if x.1.length ≤ LIM then some (.tup x.1, x.2) else none := rfl
@[simp] theorem cLst_ap : cLst a S = (a S).bind fun x => if x.1.length ≤ LIM then some (.lst x.1, x.2) else none := rfl
@[simp] theorem eNew_ap : eNew c S = (c S).bind fun x => match x.1 with | .lst ds => some (.lst ds, x.2) | .dct ds => some (.dct ds, x.2) | _ => none := rfl
@[simp] theorem oNone_ap : oNone S = some (none, S) := rfl
@[simp] theorem oSome_ap : oSome f S = (f S).bind fun x => match x.1 with | .int i => some (some i, x.2) | _ => none := rfl
@[simp] theorem eSl3_ap {l r : OF} : eSl3 f l r S = (f S).bind fun x => (l x.2).bind fun y => (r y.2).bind fun w => (gSl3 (vw w.2 x.1) y.1 w.1).bind fun z => some (z, w.2) := rfl
@[simp] theorem cSl_ap {l r : OF} : cSl f l r S = (f S).bind fun x => (l x.2).bind fun y => (r y.2).bind fun w => (gSlL (vw w.2 x.1) y.1 w.1).bind fun z => some (z, w.2) := rfl
@[simp] theorem eCall_ap : eCall k f S = (f S).bind fun x => (k (vw x.2 x.1)).bind fun z => some (z, x.2) := rfl
@[simp] theorem eCallV_ap : eCallV k i S = (sees i S).bind fun x => (k x).bind fun z => some (z, S) := rfl
@[simp] theorem cCall_ap {k : D → Option Cell} : cCall k f S = (f S).bind fun x => (k (vw x.2 x.1)).bind fun z => some (z, x.2) := rfl
@[simp] theorem cCallV_ap {k : D → Option Cell} : cCallV k i S = (sees i S).bind fun x => (k x).bind fun z => some (z, S) := rfl
@[simp] theorem eCalls_ap {k : List D → Option D} : eCalls k a S = (a S).bind fun x => (k x.1).bind fun z => some (z, x.2) := rfl
@[simp] theorem eIsi_ap {T : String} : eIsi T f S = (f S).bind fun x => (gIsi T x.1).bind fun z => some (z, x.2) := rfl
@[simp] theorem eFn_ap {ff : FF} : eFn n ff a S = (a S).bind fun x => if x.1.length = n then (ff x.1 x.2.m).bind fun y => some (y.1, ⟨x.2.r, y.2⟩) else none := rfl
@[simp] theorem iSeq_ap : iSeq f S = (f S).bind fun x => (seqD x.1).bind fun ds => some (ds, x.2) := rfl
@[simp] theorem seqD_lst {ds} : seqD (.lst ds) = some ds := rfl
@[simp] theorem seqD_tup {ds} : seqD (.tup ds) = some ds := rfl
@[simp] theorem seqD_sc {ds} : seqD (.sc ds) = some ds := rfl
open Classical in
@[simp] theorem iRg1_ap : iRg1 f S = (f S).bind fun x => match x.1 with | .int n => if -2000000000000000000 ≤ n ∧ n ≤ 2000000000000000000 then some (rngD 0 n.toNat, x.2) else none | _ => none := rfl
open Classical in
@[simp] theorem iRg2_ap : iRg2 f g S = (f S).bind fun x => (g x.2).bind fun y => match x.1, y.1 with | .int a, .int b => if -2000000000000000000 ≤ a ∧ a ≤ 2000000000000000000 ∧ -2000000000000000000 ≤ b ∧ b ≤ 2000000000000000000 then some (rngD a (b - a).toNat, y.2) else none | _, _ => none := rfl
@[simp] theorem eApp_ap : eApp i f S = if isL i S then (f S).bind fun x => (modL i (fun ds => if ds.length < LIM then some (ds ++ [x.1]) else none) x.2).bind fun S' => some (.non, S') else none := rfl
@[simp] theorem isL_ap : isL i S = match sees i S with | some (.lst _) => true | _ => false := rfl
@[simp] theorem modL_ap {x : List D → Option (List D)} : modL i x S = match S.r[i]? with
  | some (.own (.lst ds)) => (x ds).bind fun es => some ⟨S.r.set i (.own (.lst es)), S.m⟩
  | some (.val (.ref k)) => match S.m[k]? with
    | some (.lst ds) => (x ds).bind fun es => some ⟨S.r, S.m.set k (.lst es)⟩
    | _ => none
  | _ => none := rfl
@[simp] theorem gSubV_ap : gSubV i f d S = if held i S then (f S).bind fun x => modL i (setAt d x.1) x.2 else none := rfl
@[simp] theorem setAt_ap {x : Int} {ds : List D} : setAt d (.int x) ds = (ixN ds.length x).bind fun j => some (ds.set j d) := rfl
@[simp] theorem forM_nil : forM G p [] S = some (.nx, S) := rfl
theorem forM_cons {ds : List D} : forM G p (d :: ds) S = (G d S).bind fun S1 => (p S1).bind fun x => match x.1 with
    | .nx => forM G p ds x.2
    | .ct => forM G p ds x.2
    | .bk => some (.nx, x.2)
    | .rt v => some (.rt v, x.2) := rfl
@[simp] theorem cLc_ap {vs : List Nat} : cLc a G t f vs S = (a S).bind fun x => (lcM G t f vs x.1 [] x.2).bind fun y => some (.lst y.1, y.2) := rfl
/-! operations -/
@[simp] theorem gAdd_int {x y : Int} : gAdd (.int x) (.int y) = some (.int (x + y)) := rfl
@[simp] theorem gAdd_str {x y : Str} : gAdd (.str x) (.str y) = if x.length + y.length ≤ LIM then some (.str (x ++ y)) else none := by
  show ((gAddI _ _).or ((gAddS _ _).or ((gAddL _ _).or (gAddT _ _)))) = _
  simp only [gAddI, gAddS, gAddL, gAddT]; split <;> rfl
@[simp] theorem gAdd_lst {x y : List D} : gAdd (.lst x) (.lst y) = if x.length + y.length ≤ LIM then some (.lst (x ++ y)) else none := by
  show ((gAddI _ _).or ((gAddS _ _).or ((gAddL _ _).or (gAddT _ _)))) = _
  simp only [gAddI, gAddS, gAddL, gAddT]; split <;> rfl
@[simp] theorem gAdd_tup {x y : List D} : gAdd (.tup x) (.tup y) = if x.length + y.length ≤ LIM then some (.tup (x ++ y)) else none := by
  show ((gAddI _ _).or ((gAddS _ _).or ((gAddL _ _).or (gAddT _ _)))) = _
  simp only [gAddI, gAddS, gAddL, gAddT]; split <;> rfl
@[simp] theorem gSub_int {x y : Int} : gSub (.int x) (.int y) = some (.int (x - y)) := rfl
@[simp] theorem gMul_int {x y : Int} : gMul (.int x) (.int y) = if (-18446744073709551616 < x ∧ x < 18446744073709551616) ∨ (-18446744073709551616 < y ∧ y < 18446744073709551616) then some (.int (x * y)) else none := rfl
theorem gDiv_int {x y : Int} : gDiv (.int x) (.int y) = if 0 < y ∧ y < BDIV then some (.int (x / y)) else none := rfl
@[simp] theorem gDiv_ok {x y : Int} (h0 : 0 < y) (h : y < 100000000000000000000000000000000000000000000000000) : gDiv (.int x) (.int y) = some (.int (x / y)) := by
  rw [gDiv_int, if_pos ⟨h0, by unfold BDIV; exact h⟩]
@[simp] theorem gMod_int {x y : Int} : gMod (.int x) (.int y) = if 0 < y then some (.int (x % y)) else none := rfl
theorem gPow_int {x y : Int} : gPow (.int x) (.int y) = if 0 ≤ y ∧ y ≤ 1000000 ∧ -18446744073709551616 < x ∧ x < 18446744073709551616 then some (.int (x ^ y.toNat)) else none := rfl
@[simp] theorem gNeg_int {x : Int} : gNeg (.int x) = some (.int (-x)) := rfl
@[simp] theorem gLt_int {x y : Int} : gLt (.int x) (.int y) = some (.bl (decide (x < y))) := rfl
@[simp] theorem gLe_int {x y : Int} : gLe (.int x) (.int y) = some (.bl (decide (x ≤ y))) := rfl
@[simp] theorem gGt_int {x y : Int} : gGt (.int x) (.int y) = some (.bl (decide (y < x))) := rfl
@[simp] theorem gGe_int {x y : Int} : gGe (.int x) (.int y) = some (.bl (decide (y ≤ x))) := rfl
theorem shaped_int {x : Int} : SeqAt.shaped (.int x) = true := by simp [SeqAt.shaped, PyData.canLay0, PyData.depth]
theorem shaped_str {x : Str} (h : PyData.strOk x = true) : SeqAt.shaped (.str x) = true := by simp [SeqAt.shaped, PyData.canLay0, PyData.depth, h]
theorem shaped_bool {x : Bool} : SeqAt.shaped (.bool x) = true := by simp [SeqAt.shaped, PyData.canLay0, PyData.depth]
theorem shaped_none : SeqAt.shaped .none = true := by simp [SeqAt.shaped, PyData.canLay0, PyData.depth]
@[simp] theorem eqD_int {x y : Int} : eqD (.int x) (.int y) = some (decide (x = y)) := by
  simp [eqD, toPy, shaped_int, PyData.eqv, Bool.beq_eq_decide_eq]
@[simp] theorem eqD_str {x y : Str} (hx : PyData.strOk x = true) (hy : PyData.strOk y = true) : eqD (.str x) (.str y) = some (decide (x = y)) := by
  simp [eqD, toPy, shaped_str hx, shaped_str hy, PyData.eqv, Bool.beq_eq_decide_eq]
@[simp] theorem eqD_bl {x y : Bool} : eqD (.bl x) (.bl y) = some (decide (x = y)) := by
  simp [eqD, toPy, shaped_bool, PyData.eqv, Bool.beq_eq_decide_eq]
@[simp] theorem gEq_ap : gEq d e = (eqD d e).bind fun b => some (.bl b) := rfl
@[simp] theorem gNe_ap : gNe d e = (eqD d e).bind fun b => some (.bl (!b)) := rfl
@[simp] theorem gIx_tup {ds : List D} {x : Int} : gIx (.tup ds) (.int x) = atI ds x := rfl
@[simp] theorem gIx_lst {ds : List D} {x : Int} : gIx (.lst ds) (.int x) = atI ds x := rfl
@[simp] theorem gIx_sc {ds : List D} {x : Int} : gIx (.sc ds) (.int x) = atI ds x := rfl
@[simp] theorem gLen_lst {ds : List D} : gLen (.lst ds) = some (.int ds.length) := rfl
@[simp] theorem gLen_tup {ds : List D} : gLen (.tup ds) = some (.int ds.length) := rfl
@[simp] theorem gLen_sc {ds : List D} : gLen (.sc ds) = some (.int ds.length) := rfl
@[simp] theorem gInt_int {x : Int} : gInt (.int x) = some (.int x) := rfl
@[simp] theorem gInt_bl {x : Bool} : gInt (.bl x) = some (.int (if x then 1 else 0)) := rfl
@[simp] theorem gAbs_int {x : Int} : gAbs (.int x) = some (.int (if x < 0 then -x else x)) := rfl
@[simp] theorem gMax2_int {x y : Int} : gMax2 [.int x, .int y] = some (.int (if y > x then y else x)) := rfl
@[simp] theorem gMin2_int {x y : Int} : gMin2 [.int x, .int y] = some (.int (if y < x then y else x)) := rfl
@[simp] theorem gList_lst {ds : List D} : gList (.lst ds) = some (.lst ds) := rfl
@[simp] theorem gList_tup {ds : List D} : gList (.tup ds) = some (.lst ds) := rfl
@[simp] theorem gList_sc {ds : List D} : gList (.sc ds) = some (.lst ds) := rfl
@[simp] theorem gTuple_lst {ds : List D} : gTuple (.lst ds) = some (.tup ds) := rfl
@[simp] theorem gTuple_tup {ds : List D} : gTuple (.tup ds) = some (.tup ds) := rfl
@[simp] theorem gTuple_sc {ds : List D} : gTuple (.sc ds) = some (.tup ds) := rfl
@[simp] theorem gTru_bl {x : Bool} : gTru (.bl x) = some x := rfl
@[simp] theorem gTru_int {x : Int} : gTru (.int x) = some (x != 0) := rfl
@[simp] theorem gTru_lst {ds : List D} : gTru (.lst ds) = some (!ds.isEmpty) := rfl
@[simp] theorem gTru_tup {ds : List D} : gTru (.tup ds) = some (!ds.isEmpty) := rfl
@[simp] theorem gTru_non : gTru .non = some false := rfl
@[simp] theorem isN_non : gIsN .non .non = some (.bl true) := rfl
@[simp] theorem isN_int {x} : gIsN (.int x) .non = some (.bl false) := rfl
@[simp] theorem isN_bl {x} : gIsN (.bl x) .non = some (.bl false) := rfl
@[simp] theorem isN_str {x} : gIsN (.str x) .non = some (.bl false) := rfl
@[simp] theorem isN_tup {x} : gIsN (.tup x) .non = some (.bl false) := rfl
@[simp] theorem isN_lst {x} : gIsN (.lst x) .non = some (.bl false) := rfl
@[simp] theorem notN_ap : gNotN d e = (gIsN d e).bind fun z => match z with | .bl b => some (.bl (!b)) | _ => none := rfl
@[simp] theorem gSl3_lst {ds : List D} {l r : Option Int} : gSl3 (.lst ds) l r = some (.lst (cutD ds l r)) := rfl
@[simp] theorem gSl3_tup {ds : List D} {l r : Option Int} : gSl3 (.tup ds) l r = some (.tup (cutD ds l r)) := rfl
@[simp] theorem gSlL_lst {ds : List D} {l r : Option Int} : gSlL (.lst ds) l r = some (.lst (cutD ds l r)) := rfl
end
theorem fnM_ap {N : Nat} {b : SF} {ds : List D} {m : List Cell} : fnM N b ds m = (b ⟨ds.map Slot.val ++ List.replicate (N - ds.length) .emp, m⟩).bind fun p => match p.1 with
  | .rt d => some (d, p.2.m)
  | .nx => some (.non, p.2.m)
  | _ => none := rfl
/-! places -/
theorem ixN_nat {n i : Nat} (h : i < n) : ixN n (i : Int) = some i := by
  unfold ixN
  rw [if_pos (Int.natCast_nonneg _), if_pos (by omega)]
  simp
theorem ixN_pos {n : Nat} {i : Int} (h0 : 0 ≤ i) (h : i < n) : ixN n i = some i.toNat := by
  unfold ixN
  rw [if_pos h0, if_pos h]
theorem atI_pos {α : Type} {xs : List α} {i : Int} (h0 : 0 ≤ i) (h : i < xs.length) : atI xs i = xs[i.toNat]? := by
  unfold atI
  rw [ixN_pos h0 h]; rfl
@[simp] theorem atI_0 {α : Type} {x : α} {xs : List α} : atI (x :: xs) 0 = some x := by
  rw [atI_pos (by decide) (by simp only [List.length_cons]; omega)]; rfl
@[simp] theorem atI_1 {α : Type} {x y : α} {xs : List α} : atI (x :: y :: xs) 1 = some y := by
  rw [atI_pos (by decide) (by simp only [List.length_cons]; omega)]; rfl
@[simp] theorem atI_2 {α : Type} {x y z : α} {xs : List α} : atI (x :: y :: z :: xs) 2 = some z := by
  rw [atI_pos (by decide) (by simp only [List.length_cons]; omega)]; rfl
@[simp] theorem atI_3 {α : Type} {x y z w : α} {xs : List α} : atI (x :: y :: z :: w :: xs) 3 = some w := by
  rw [atI_pos (by decide) (by simp only [List.length_cons]; omega)]; rfl
@[simp] theorem atI_4 {α : Type} {x0 x1 x2 x3 x4 : α} {xs : List α} : atI (x0 :: x1 :: x2 :: x3 :: x4 :: xs) 4 = some x4 := by
  rw [atI_pos (by decide) (by simp only [List.length_cons]; omega)]; rfl
@[simp] theorem atI_5 {α : Type} {x0 x1 x2 x3 x4 x5 : α} {xs : List α} : atI (x0 :: x1 :: x2 :: x3 :: x4 :: x5 :: xs) 5 = some x5 := by
  rw [atI_pos (by decide) (by simp only [List.length_cons]; omega)]; rfl
@[simp] theorem atI_6 {α : Type} {x0 x1 x2 x3 x4 x5 x6 : α} {xs : List α} : atI (x0 :: x1 :: x2 :: x3 :: x4 :: x5 :: x6 :: xs) 6 = some x6 := by
  rw [atI_pos (by decide) (by simp only [List.length_cons]; omega)]; rfl
@[simp] theorem atI_7 {α : Type} {x0 x1 x2 x3 x4 x5 x6 x7 : α} {xs : List α} : atI (x0 :: x1 :: x2 :: x3 :: x4 :: x5 :: x6 :: x7 :: xs) 7 = some x7 := by
  rw [atI_pos (by decide) (by simp only [List.length_cons]; omega)]; rfl
@[simp] theorem atI_8 {α : Type} {x0 x1 x2 x3 x4 x5 x6 x7 x8 : α} {xs : List α} : atI (x0 :: x1 :: x2 :: x3 :: x4 :: x5 :: x6 :: x7 :: x8 :: xs) 8 = some x8 := by
  rw [atI_pos (by decide) (by simp only [List.length_cons]; omega)]; rfl
@[simp] theorem atI_9 {α : Type} {x0 x1 x2 x3 x4 x5 x6 x7 x8 x9 : α} {xs : List α} : atI (x0 :: x1 :: x2 :: x3 :: x4 :: x5 :: x6 :: x7 :: x8 :: x9 :: xs) 9 = some x9 := by
  rw [atI_pos (by decide) (by simp only [List.length_cons]; omega)]; rfl
@[simp] theorem atI_10 {α : Type} {x0 x1 x2 x3 x4 x5 x6 x7 x8 x9 x10 : α} {xs : List α} : atI (x0 :: x1 :: x2 :: x3 :: x4 :: x5 :: x6 :: x7 :: x8 :: x9 :: x10 :: xs) 10 = some x10 := by
  rw [atI_pos (by decide) (by simp only [List.length_cons]; omega)]; rfl
@[simp] theorem atI_11 {α : Type} {x0 x1 x2 x3 x4 x5 x6 x7 x8 x9 x10 x11 : α} {xs : List α} : atI (x0 :: x1 :: x2 :: x3 :: x4 :: x5 :: x6 :: x7 :: x8 :: x9 :: x10 :: x11 :: xs) 11 = some x11 := by
  rw [atI_pos (by decide) (by simp only [List.length_cons]; omega)]; rfl
theorem lim_ok {n : Nat} (h : n ≤ 1000000) : n ≤ LIM := h
@[simp] theorem LIM_eq : LIM = 1000000 := rfl
end M

/-! M7: data of a known kind: == of it; isinstance. -/
namespace M
open PySem PySem.Spec L2
/-- == of such data is equality; n bounds the depth -/
structure Ek {α : Type} [DecidableEq α] (e : α → D) (n : Nat) : Prop where
  py : ∀ x, ∃ p, toPy (e x) = some p ∧ PyData.canLay0 p = true ∧ PyData.depth p ≤ n
  eq : ∀ x y p q, toPy (e x) = some p → toPy (e y) = some q → PyData.eqv p q = decide (x = y)
section
variable {α β γ : Type} [DecidableEq α] [DecidableEq β] [DecidableEq γ] {e : α → D} {f : β → D} {g : γ → D} {n k l : Nat}
theorem Ek.eqD (h : Ek e n) (hn : n ≤ 64) (x y : α) : eqD (e x) (e y) = some (decide (x = y)) := by
  obtain ⟨p, h1, h2, h3⟩ := h.py x
  obtain ⟨q, g1, g2, g3⟩ := h.py y
  unfold M.eqD
  rw [h1, g1]
  show (if SeqAt.shaped p = true ∧ SeqAt.shaped q = true then some (PyData.eqv p q) else none) = _
  rw [if_pos ⟨by unfold SeqAt.shaped; rw [h2, decide_eq_true (by omega : p.depth ≤ 64)]; rfl, by unfold SeqAt.shaped; rw [g2, decide_eq_true (by omega : q.depth ≤ 64)]; rfl⟩, h.eq x y p q h1 g1]
theorem ek_int : Ek D.int 1 := ⟨fun x => ⟨.int x, rfl, rfl, by simp [PyData.depth]⟩, fun x y p q h1 h2 => by cases h1; cases h2; simp [PyData.eqv, Bool.beq_eq_decide_eq]⟩
theorem ek_bl : Ek D.bl 1 := ⟨fun x => ⟨.bool x, rfl, rfl, by simp [PyData.depth]⟩, fun x y p q h1 h2 => by cases h1; cases h2; simp [PyData.eqv, Bool.beq_eq_decide_eq]⟩
/-- texts that are texts -/
abbrev SOk := { x : Str // PyData.strOk x = true }
theorem ek_str : Ek (fun x : SOk => D.str x.1) 1 := ⟨fun x => ⟨.str x.1, rfl, by simp [PyData.canLay0, x.2], by simp [PyData.depth]⟩, fun x y p q h1 h2 => by cases h1; cases h2; simp [PyData.eqv, Bool.beq_eq_decide_eq, Subtype.ext_iff]⟩
theorem ek_all (h : Ek e n) : (∀ xs : List α, ∃ ps, toPys (xs.map e) = some ps ∧ PyData.canLayAll0 ps = true ∧ PyData.depthAll ps ≤ n) ∧ ∀ (xs ys : List α) ps qs, toPys (xs.map e) = some ps → toPys (ys.map e) = some qs → PyData.eqvAll ps qs = decide (xs = ys) := by
  constructor
  · intro xs
    induction xs with
    | nil => exact ⟨[], rfl, rfl, by simp [PyData.depthAll]⟩
    | cons x xs ih =>
      obtain ⟨ps, h1, h2, h3⟩ := ih
      obtain ⟨p, g1, g2, g3⟩ := h.py x
      refine ⟨p :: ps, by simp [toPys, g1, h1], by simp [PyData.canLayAll0, g2, h2], ?_⟩
      simp only [PyData.depthAll]
      omega
  · intro xs
    induction xs with
    | nil =>
      intro ys ps qs h1 h2
      cases h1
      cases ys with
      | nil => cases h2; rfl
      | cons y ys =>
        simp only [List.map_cons, toPys] at h2
        obtain ⟨q, e1, h2⟩ := bind_some h2
        obtain ⟨qs', e2, h2⟩ := bind_some h2
        cases h2
        simp [PyData.eqvAll]
    | cons x xs ih =>
      intro ys ps qs h1 h2
      simp only [List.map_cons, toPys] at h1
      obtain ⟨p, e1, h1⟩ := bind_some h1
      obtain ⟨ps', e2, h1⟩ := bind_some h1
      cases h1
      cases ys with
      | nil => cases h2; simp [PyData.eqvAll]
      | cons y ys =>
        simp only [List.map_cons, toPys] at h2
        obtain ⟨q, e3, h2⟩ := bind_some h2
        obtain ⟨qs', e4, h2⟩ := bind_some h2
        cases h2
        simp only [PyData.eqvAll]
        rw [h.eq x y p q e1 e3, ih ys ps' qs' e2 e4]
        by_cases a : x = y <;> by_cases b : xs = ys <;> simp [a, b]
theorem ek_lst (h : Ek e n) : Ek (fun xs : List α => D.lst (xs.map e)) (n + 1) := by
  obtain ⟨h1, h2⟩ := ek_all h
  refine ⟨fun xs => ?_, fun xs ys p q e1 e2 => ?_⟩
  · obtain ⟨ps, a, b, c⟩ := h1 xs
    exact ⟨.list ps, by simp [toPy, a], by simpa [PyData.canLay0] using b, by simp only [PyData.depth]; omega⟩
  · simp only [toPy, Option.map_eq_some_iff] at e1 e2
    obtain ⟨ps, a, rfl⟩ := e1
    obtain ⟨qs, b, rfl⟩ := e2
    simpa [PyData.eqv] using h2 xs ys ps qs a b
theorem ek_tps (h : Ek e n) : Ek (fun xs : List α => D.tup (xs.map e)) (n + 1) := by
  obtain ⟨h1, h2⟩ := ek_all h
  refine ⟨fun xs => ?_, fun xs ys p q e1 e2 => ?_⟩
  · obtain ⟨ps, a, b, c⟩ := h1 xs
    exact ⟨.tuple ps, by simp [toPy, a], by simpa [PyData.canLay0] using b, by simp only [PyData.depth]; omega⟩
  · simp only [toPy, Option.map_eq_some_iff] at e1 e2
    obtain ⟨ps, a, rfl⟩ := e1
    obtain ⟨qs, b, rfl⟩ := e2
    simpa [PyData.eqv] using h2 xs ys ps qs a b
theorem ek_t2 (h1 : Ek e n) (h2 : Ek f k) : Ek (fun x : α × β => D.tup [e x.1, f x.2]) (max n k + 1) := by
  refine ⟨fun x => ?_, fun x y p q e1 e2 => ?_⟩
  · obtain ⟨p, a, b, c⟩ := h1.py x.1
    obtain ⟨p', a', b', c'⟩ := h2.py x.2
    refine ⟨.tuple [p, p'], by simp [toPy, toPys, a, a'], by simp [PyData.canLay0, PyData.canLayAll0, b, b'], ?_⟩
    simp only [PyData.depth, PyData.depthAll]
    omega
  · obtain ⟨p1, a1, _⟩ := h1.py x.1
    obtain ⟨p2, a2, _⟩ := h2.py x.2
    obtain ⟨q1, b1, _⟩ := h1.py y.1
    obtain ⟨q2, b2, _⟩ := h2.py y.2
    simp only [toPy, toPys, a1, a2, b1, b2, Option.bind_some, Option.map_some, Option.some.injEq] at e1 e2
    subst e1; subst e2
    obtain ⟨x1, x2⟩ := x
    obtain ⟨y1, y2⟩ := y
    simp only [PyData.eqv, PyData.eqvAll, h1.eq _ _ _ _ a1 b1, h2.eq _ _ _ _ a2 b2, Bool.and_true]
    by_cases a : x1 = y1 <;> by_cases b : x2 = y2 <;> simp [a, b]
theorem ek_t3 (h1 : Ek e n) (h2 : Ek f k) (h3 : Ek g l) : Ek (fun x : α × β × γ => D.tup [e x.1, f x.2.1, g x.2.2]) (max n (max k l) + 1) := by
  refine ⟨fun x => ?_, fun x y p q e1 e2 => ?_⟩
  · obtain ⟨p, a, b, c⟩ := h1.py x.1
    obtain ⟨p', a', b', c'⟩ := h2.py x.2.1
    obtain ⟨p'', a'', b'', c''⟩ := h3.py x.2.2
    refine ⟨.tuple [p, p', p''], by simp [toPy, toPys, a, a', a''], by simp [PyData.canLay0, PyData.canLayAll0, b, b', b''], ?_⟩
    simp only [PyData.depth, PyData.depthAll]
    omega
  · obtain ⟨p1, a1, _⟩ := h1.py x.1
    obtain ⟨p2, a2, _⟩ := h2.py x.2.1
    obtain ⟨p3, a3, _⟩ := h3.py x.2.2
    obtain ⟨q1, b1, _⟩ := h1.py y.1
    obtain ⟨q2, b2, _⟩ := h2.py y.2.1
    obtain ⟨q3, b3, _⟩ := h3.py y.2.2
    simp only [toPy, toPys, a1, a2, a3, b1, b2, b3, Option.bind_some, Option.map_some, Option.some.injEq] at e1 e2
    subst e1; subst e2
    obtain ⟨x1, x2, x3⟩ := x
    obtain ⟨y1, y2, y3⟩ := y
    simp only [PyData.eqv, PyData.eqvAll, h1.eq _ _ _ _ a1 b1, h2.eq _ _ _ _ a2 b2, h3.eq _ _ _ _ a3 b3, Bool.and_true]
    by_cases a : x1 = y1 <;> by_cases b : x2 = y2 <;> by_cases c : x3 = y3 <;> simp [a, b, c]
end
/-! isinstance -/
theorem isi_of {T n : String} {d : D} {b : Bool} (h1 : tyName d = some n) (h2 : kitB n T = some b) : gIsi T d = some (.bl b) := by
  unfold gIsi
  rw [h1]
  show (kitB n T).bind _ = _
  rw [h2]; rfl
@[simp] theorem isi_non_int  : gIsi "int" .non = some (.bl false) := isi_of (n := "NoneType") rfl (by decide +kernel)
@[simp] theorem isi_non_bool  : gIsi "bool" .non = some (.bl false) := isi_of (n := "NoneType") rfl (by decide +kernel)
@[simp] theorem isi_non_str  : gIsi "str" .non = some (.bl false) := isi_of (n := "NoneType") rfl (by decide +kernel)
@[simp] theorem isi_non_list  : gIsi "list" .non = some (.bl false) := isi_of (n := "NoneType") rfl (by decide +kernel)
@[simp] theorem isi_non_tuple  : gIsi "tuple" .non = some (.bl false) := isi_of (n := "NoneType") rfl (by decide +kernel)
@[simp] theorem isi_non_dict  : gIsi "dict" .non = some (.bl false) := isi_of (n := "NoneType") rfl (by decide +kernel)
@[simp] theorem isi_bl_int {x : Bool} : gIsi "int" (.bl x) = some (.bl true) := isi_of (n := "bool") rfl (by decide +kernel)
@[simp] theorem isi_bl_bool {x : Bool} : gIsi "bool" (.bl x) = some (.bl true) := isi_of (n := "bool") rfl (by decide +kernel)
@[simp] theorem isi_bl_str {x : Bool} : gIsi "str" (.bl x) = some (.bl false) := isi_of (n := "bool") rfl (by decide +kernel)
@[simp] theorem isi_bl_list {x : Bool} : gIsi "list" (.bl x) = some (.bl false) := isi_of (n := "bool") rfl (by decide +kernel)
@[simp] theorem isi_bl_tuple {x : Bool} : gIsi "tuple" (.bl x) = some (.bl false) := isi_of (n := "bool") rfl (by decide +kernel)
@[simp] theorem isi_bl_dict {x : Bool} : gIsi "dict" (.bl x) = some (.bl false) := isi_of (n := "bool") rfl (by decide +kernel)
@[simp] theorem isi_int_int {x : Int} : gIsi "int" (.int x) = some (.bl true) := isi_of (n := "int") rfl (by decide +kernel)
@[simp] theorem isi_int_bool {x : Int} : gIsi "bool" (.int x) = some (.bl false) := isi_of (n := "int") rfl (by decide +kernel)
@[simp] theorem isi_int_str {x : Int} : gIsi "str" (.int x) = some (.bl false) := isi_of (n := "int") rfl (by decide +kernel)
@[simp] theorem isi_int_list {x : Int} : gIsi "list" (.int x) = some (.bl false) := isi_of (n := "int") rfl (by decide +kernel)
@[simp] theorem isi_int_tuple {x : Int} : gIsi "tuple" (.int x) = some (.bl false) := isi_of (n := "int") rfl (by decide +kernel)
@[simp] theorem isi_int_dict {x : Int} : gIsi "dict" (.int x) = some (.bl false) := isi_of (n := "int") rfl (by decide +kernel)
@[simp] theorem isi_str_int {x : Str} : gIsi "int" (.str x) = some (.bl false) := isi_of (n := "str") rfl (by decide +kernel)
@[simp] theorem isi_str_bool {x : Str} : gIsi "bool" (.str x) = some (.bl false) := isi_of (n := "str") rfl (by decide +kernel)
@[simp] theorem isi_str_str {x : Str} : gIsi "str" (.str x) = some (.bl true) := isi_of (n := "str") rfl (by decide +kernel)
@[simp] theorem isi_str_list {x : Str} : gIsi "list" (.str x) = some (.bl false) := isi_of (n := "str") rfl (by decide +kernel)
@[simp] theorem isi_str_tuple {x : Str} : gIsi "tuple" (.str x) = some (.bl false) := isi_of (n := "str") rfl (by decide +kernel)
@[simp] theorem isi_str_dict {x : Str} : gIsi "dict" (.str x) = some (.bl false) := isi_of (n := "str") rfl (by decide +kernel)
@[simp] theorem isi_tup_int {x : List D} : gIsi "int" (.tup x) = some (.bl false) := isi_of (n := "tuple") rfl (by decide +kernel)
@[simp] theorem isi_tup_bool {x : List D} : gIsi "bool" (.tup x) = some (.bl false) := isi_of (n := "tuple") rfl (by decide +kernel)
@[simp] theorem isi_tup_str {x : List D} : gIsi "str" (.tup x) = some (.bl false) := isi_of (n := "tuple") rfl (by decide +kernel)
@[simp] theorem isi_tup_list {x : List D} : gIsi "list" (.tup x) = some (.bl false) := isi_of (n := "tuple") rfl (by decide +kernel)
@[simp] theorem isi_tup_tuple {x : List D} : gIsi "tuple" (.tup x) = some (.bl true) := isi_of (n := "tuple") rfl (by decide +kernel)
@[simp] theorem isi_tup_dict {x : List D} : gIsi "dict" (.tup x) = some (.bl false) := isi_of (n := "tuple") rfl (by decide +kernel)
@[simp] theorem isi_lst_int {x : List D} : gIsi "int" (.lst x) = some (.bl false) := isi_of (n := "list") rfl (by decide +kernel)
@[simp] theorem isi_lst_bool {x : List D} : gIsi "bool" (.lst x) = some (.bl false) := isi_of (n := "list") rfl (by decide +kernel)
@[simp] theorem isi_lst_str {x : List D} : gIsi "str" (.lst x) = some (.bl false) := isi_of (n := "list") rfl (by decide +kernel)
@[simp] theorem isi_lst_list {x : List D} : gIsi "list" (.lst x) = some (.bl true) := isi_of (n := "list") rfl (by decide +kernel)
@[simp] theorem isi_lst_tuple {x : List D} : gIsi "tuple" (.lst x) = some (.bl false) := isi_of (n := "list") rfl (by decide +kernel)
@[simp] theorem isi_lst_dict {x : List D} : gIsi "dict" (.lst x) = some (.bl false) := isi_of (n := "list") rfl (by decide +kernel)
end M

/-! more methods of own lists: pop at a place, insert, index; is and is not of truths -/
namespace M
open PySem PySem.Spec L2
theorem opq {p : Prop} (h : p) : p := h
section
variable {X : Cx} {x : Str} {xp pos : Pos} {e e2 : Expr} {fe fe2 : EF}
def posAt (i : Int) (n : Nat) : Option Nat := if -1000000 ≤ i ∧ i ≤ 1000000 then seqIndex? i n else none
def ePopAt (i : Nat) (f : EF) : EF := fun S => if isL i S then (f S).bind fun p => match p.1 with
    | .int j => (sees i p.2).bind fun d => match d with
      | .lst ds => (posAt j ds.length).bind fun k => (ds[k]?).bind fun z => (modL i (fun ds => some (ds.eraseIdx k)) p.2).bind fun S' => some (z, S')
      | _ => none
    | _ => none
  else none
def eIns (i : Nat) (f g : EF) : EF := fun S => if isL i S then (f S).bind fun p => (g p.2).bind fun q => match p.1 with
    | .int j => if 0 ≤ j ∧ j ≤ 1000000 then (modL i (fun ds => if ds.length < LIM then some (ds.take j.toNat ++ [q.1] ++ ds.drop j.toNat) else none) q.2).bind fun S' => some (.non, S') else none
    | _ => none
  else none
theorem RVs_take {K : PySem.W.Frag} {F : Hp} {io : List Addr} : ∀ {vs : List V} {ds : List D} (n : Nat), RVs K F io vs ds → RVs K F io (vs.take n) (ds.take n)
  | _, _, 0, _ => by simp; exact .nil
  | _, _, n + 1, .nil => .nil
  | _, _, n + 1, .cons h t => .cons h (RVs_take n t)
theorem RVs_drop {K : PySem.W.Frag} {F : Hp} {io : List Addr} : ∀ {vs : List V} {ds : List D} (n : Nat), RVs K F io vs ds → RVs K F io (vs.drop n) (ds.drop n)
  | _, _, 0, h => h
  | _, _, n + 1, .nil => .nil
  | _, _, n + 1, .cons h t => RVs_drop n t
theorem RVs_erase {K : PySem.W.Frag} {F : Hp} {io : List Addr} : ∀ {vs : List V} {ds : List D} (n : Nat), RVs K F io vs ds → RVs K F io (vs.eraseIdx n) (ds.eraseIdx n)
  | _, _, _, .nil => .nil
  | _, _, 0, .cons h t => t
  | _, _, n + 1, .cons h t => .cons h (RVs_erase n t)
theorem me_popAt (i : Nat) {apos : Pos} (he : ME X e fe) (hN : X.N[i]? = some x := by rfl) (hv : Vis X.env.scope x := by first | exact Or.inl rfl | exact Or.inr (Or.inl rfl) | exact Or.inr (Or.inr rfl))
    (hd : (x == ("__debug__" : Str)) = false := by decide) (hcd : (x == ("__classdict__" : Str)) = false := by decide)
    (hbase : attributeBase (.Name x xp) "pop" X.env (eval (.Name x xp) X.env) = eval (.Name x xp) X.env := by rfl)
    (hfew : ((backTo pos (starEach [e] X.env)).all (fun x => !x.1) && (backToKw pos (keywordEach [] X.env)).all (fun x => x.1.isSome)
      && decide ([e].length + ([] : List Keyword).length + (if ([] : List Keyword).isEmpty then 0 else 1) < 30)) = true := by rfl)
    (hline : (apos.endLine == pos.line) = true := by rfl) (hs : starEach [e] X.env = (false, eval e X.env) :: starEach [] X.env := by rfl) (hplain : (backTo pos (starEach [] X.env)).any (·.1) = false := by rfl) :
    ME X (.Call (.Attribute (.Name x xp) "pop" apos) [e] [] pos) (ePopAt i fe) := by
  obtain ⟨t, p, q⟩ := he
  refine ⟨_, pe_bm PySem.F.plainAttrs_list PySem.F.slot_list_pop PySem.F.type_list_pop mt_popAt (pe_var hN hv hd hcd) (pa_cons p pa_nil hs) hbase hfew hline hs hplain, fun S d S' h W s Q R k => ?_⟩
  unfold ePopAt at h
  split at h
  · rename_i hh
    obtain ⟨⟨d1, S1⟩, e1, h⟩ := bind_some h
    simp only at h
    split at h
    · rename_i j
      obtain ⟨d2, ed, h⟩ := bind_some h
      split at h
      · rename_i ds0
        obtain ⟨kk0, ek, h⟩ := bind_some h
        obtain ⟨z, ez, h⟩ := bind_some h
        obtain ⟨S2, e2, h⟩ := bind_some h
        cases h
        obtain ⟨u, eu, ty⟩ := isL_ok R hh
        refine ⟨u, eu, ty, ?_⟩
        refine q S _ _ e1 W s _ R fun y W1 R1 f1 r1 => ?_
        cases r1.int_inv
        obtain ⟨a, ds, es, vs, e3, e5, e4, h1, h2, kk⟩ := modL_ok R1 e2
        rw [eu] at e3; cases e3
        rw [ed] at e5; cases e5
        cases e4
        unfold posAt at ek
        split at ek
        · rename_i hb
          obtain ⟨R2, f2⟩ := kk _ (RVs_erase kk0 h2)
          obtain ⟨v, ev, rv⟩ := h2.get ez
          exact ⟨a, vs, j, kk0, v, rfl, rfl, h1, by omega, by omega, by rw [h2.length]; exact ek, ev, k v _ R2 (f1.trans f2) (rv.up f2)⟩
        · cases ek
      · cases h
    · cases h
  · cases h
theorem me_ins (i : Nat) {apos : Pos} (he : ME X e fe) (he2 : ME X e2 fe2) (hN : X.N[i]? = some x := by rfl) (hv : Vis X.env.scope x := by first | exact Or.inl rfl | exact Or.inr (Or.inl rfl) | exact Or.inr (Or.inr rfl))
    (hd : (x == ("__debug__" : Str)) = false := by decide) (hcd : (x == ("__classdict__" : Str)) = false := by decide)
    (hbase : attributeBase (.Name x xp) "insert" X.env (eval (.Name x xp) X.env) = eval (.Name x xp) X.env := by rfl)
    (hfew : ((backTo pos (starEach [e, e2] X.env)).all (fun x => !x.1) && (backToKw pos (keywordEach [] X.env)).all (fun x => x.1.isSome)
      && decide ([e, e2].length + ([] : List Keyword).length + (if ([] : List Keyword).isEmpty then 0 else 1) < 30)) = true := by rfl)
    (hline : (apos.endLine == pos.line) = true := by rfl) (hs : starEach [e, e2] X.env = (false, eval e X.env) :: starEach [e2] X.env := by rfl) (hs2 : starEach [e2] X.env = (false, eval e2 X.env) :: starEach [] X.env := by rfl) (hplain : (backTo pos (starEach [e2] X.env)).any (·.1) = false := by rfl) :
    ME X (.Call (.Attribute (.Name x xp) "insert" apos) [e, e2] [] pos) (eIns i fe fe2) := by
  obtain ⟨t, p, q⟩ := he
  obtain ⟨t2, p2, q2⟩ := he2
  refine ⟨_, pe_bm PySem.F.plainAttrs_list PySem.F.slot_list_insert PySem.F.type_list_insert mt_insert (pe_var hN hv hd hcd) (pa_cons p (pa_cons p2 pa_nil hs2) hs) hbase hfew hline hs hplain, fun S d S' h W s Q R k => ?_⟩
  unfold eIns at h
  split at h
  · rename_i hh
    obtain ⟨⟨d1, S1⟩, e1, h⟩ := bind_some h
    obtain ⟨⟨d2, S2⟩, e3, h⟩ := bind_some h
    simp only at h
    split at h
    · rename_i j dj
      split at h
      · rename_i hb
        obtain ⟨S3, e4, h⟩ := bind_some h
        cases h
        obtain ⟨u, eu, ty⟩ := isL_ok R hh
        refine ⟨u, eu, ty, ?_⟩
        refine q S _ _ e1 W s _ R fun y W1 R1 f1 r1 => ?_
        cases r1.int_inv
        refine q2 S1 _ _ e3 W1 s _ R1 fun y2 W2 R2 f2 r2 => ?_
        obtain ⟨a, ds, es, vs, e5, _, e6, h1, h2, kk⟩ := modL_ok R2 e4
        rw [eu] at e5; cases e5
        split at e6
        · rename_i c
          cases e6
          obtain ⟨R3, f3⟩ := kk _ (((RVs_take j.toNat h2).append (.cons r2 .nil)).append (RVs_drop j.toNat h2))
          exact ⟨a, vs, j, y2, rfl, rfl, h1, by rw [h2.length]; exact Nat.lt_of_lt_of_le c lim_line, hb.1, by omega, k _ _ R3 ((f1.trans f2).trans f3) .non⟩
        · cases e6
      · cases h
    · cases h
  · cases h
def firstAt (ns : List Int) (y : Int) : Option Nat := if y ∈ ns then some (ns.findIdx (· == y)) else none
def eIdx (i : Nat) (f : EF) : EF := fun S => if isL i S then (f S).bind fun p => match p.1 with
    | .int y => (sees i p.2).bind fun d => match d with
      | .lst ds => (intsD ds).bind fun ns => (firstAt ns y).bind fun j => some (.int (j : Nat), p.2)
      | _ => none
    | _ => none
  else none
theorem me_idx (i : Nat) {apos : Pos} (he : ME X e fe) (hN : X.N[i]? = some x := by rfl) (hv : Vis X.env.scope x := by first | exact Or.inl rfl | exact Or.inr (Or.inl rfl) | exact Or.inr (Or.inr rfl))
    (hd : (x == ("__debug__" : Str)) = false := by decide) (hcd : (x == ("__classdict__" : Str)) = false := by decide)
    (hbase : attributeBase (.Name x xp) "index" X.env (eval (.Name x xp) X.env) = eval (.Name x xp) X.env := by rfl)
    (hfew : ((backTo pos (starEach [e] X.env)).all (fun x => !x.1) && (backToKw pos (keywordEach [] X.env)).all (fun x => x.1.isSome)
      && decide ([e].length + ([] : List Keyword).length + (if ([] : List Keyword).isEmpty then 0 else 1) < 30)) = true := by rfl)
    (hline : (apos.endLine == pos.line) = true := by rfl) (hs : starEach [e] X.env = (false, eval e X.env) :: starEach [] X.env := by rfl) (hplain : (backTo pos (starEach [] X.env)).any (·.1) = false := by rfl) :
    ME X (.Call (.Attribute (.Name x xp) "index" apos) [e] [] pos) (eIdx i fe) := by
  obtain ⟨t, p, q⟩ := he
  refine ⟨_, pe_bm PySem.F.plainAttrs_list PySem.F.slot_list_index PySem.F.type_list_index mt_index (pe_var hN hv hd hcd) (pa_cons p pa_nil hs) hbase hfew hline hs hplain, fun S d S' h W s Q R k => ?_⟩
  unfold eIdx at h
  split at h
  · rename_i hh
    obtain ⟨⟨d1, S1⟩, e1, h⟩ := bind_some h
    simp only at h
    split at h
    · rename_i y0
      obtain ⟨d2, ed, h⟩ := bind_some h
      split at h
      · rename_i ds0 _
        obtain ⟨ns, en, h⟩ := bind_some h
        obtain ⟨j, ej, h⟩ := bind_some h
        cases h
        obtain ⟨u, eu, ty⟩ := isL_ok R hh
        refine ⟨u, eu, ty, ?_⟩
        refine q S _ _ e1 W s _ R fun y W1 R1 f1 r1 => ?_
        cases r1.int_inv
        obtain ⟨v, e3, a, vs, rfl, h1, h2⟩ := R1.sees ed
        rw [eu] at e3; cases e3
        have hv := intsRv h2 en
        subst hv
        unfold firstAt at ej
        split at ej
        · rename_i hm
          cases ej
          have hl : ns.findIdx (· == y0) < ns.length := List.findIdx_lt_length_of_exists ⟨y0, hm, by simp⟩
          have hz : ns[ns.findIdx (· == y0)]? = some y0 := by
            rw [List.getElem?_eq_getElem hl]
            have := List.findIdx_getElem (w := hl)
            simpa using this
          refine ⟨a, _, .int y0, _, .int y0, rfl, rfl, .of h1, rfl, by simp [flatV], by rw [List.getElem?_map, hz]; rfl, by simp [eqV], fun n z' hn hz' => ?_, k _ _ R1 f1 (.int _)⟩
          rw [List.getElem?_map] at hz'
          have hnl : n < ns.length := by omega
          rw [List.getElem?_eq_getElem hnl] at hz'
          cases hz'
          have := List.not_of_lt_findIdx hn
          simpa [eqV] using this
        · cases ej
      · cases h
    · cases h
  · cases h
/-- is, is not: with None, or of truths -/
def gIs : D → D → Option D
  | .bl a, .bl b => some (.bl (decide (a = b)))
  | _, _ => none
def gIsnt : D → D → Option D
  | .bl a, .bl b => some (.bl (!decide (a = b)))
  | _, _ => none
theorem oIs : OpM X (compareOp .Is) gIs := by
  refine ⟨_, op_is_bl, fun x y d e z hz W S s Q R rx ry k => ?_⟩
  cases d <;> cases e <;> first | cases hz | skip
  exact ⟨_, _, RV.bl_inv rx, RV.bl_inv ry, k _ W R .refl (.bl _)⟩
theorem oIsnt : OpM X (compareOp .IsNot) gIsnt := by
  refine ⟨_, op_isnot_bl, fun x y d e z hz W S s Q R rx ry k => ?_⟩
  cases d <;> cases e <;> first | cases hz | skip
  exact ⟨_, _, RV.bl_inv rx, RV.bl_inv ry, k _ W R .refl (.bl _)⟩
variable {S : Ms} {i : Nat} {f g : EF}
@[simp] theorem cSlV_ap {l h : OF} : cSlV i l h S = if held i S then (l S).bind fun q => (h q.2).bind fun r => (sees i r.2).bind fun d => (gSlL d q.1 r.1).bind fun z => some (z, r.2) else none := rfl
@[simp] theorem ePopAt_ap : ePopAt i f S = if isL i S then (f S).bind fun p => match p.1 with
    | .int j => (sees i p.2).bind fun d => match d with
      | .lst ds => (posAt j ds.length).bind fun k => (ds[k]?).bind fun z => (modL i (fun ds => some (ds.eraseIdx k)) p.2).bind fun S' => some (z, S')
      | _ => none
    | _ => none
  else none := rfl
@[simp] theorem eIns_ap : eIns i f g S = if isL i S then (f S).bind fun p => (g p.2).bind fun q => match p.1 with
    | .int j => if 0 ≤ j ∧ j ≤ 1000000 then (modL i (fun ds => if ds.length < LIM then some (ds.take j.toNat ++ [q.1] ++ ds.drop j.toNat) else none) q.2).bind fun S' => some (.non, S') else none
    | _ => none
  else none := rfl
@[simp] theorem eIdx_ap : eIdx i f S = if isL i S then (f S).bind fun p => match p.1 with
    | .int y => (sees i p.2).bind fun d => match d with
      | .lst ds => (intsD ds).bind fun ns => (firstAt ns y).bind fun j => some (.int (j : Nat), p.2)
      | _ => none
    | _ => none
  else none := rfl
@[simp] theorem gIs_bl {a b : Bool} : gIs (.bl a) (.bl b) = some (.bl (decide (a = b))) := rfl
@[simp] theorem gIsnt_bl {a b : Bool} : gIsnt (.bl a) (.bl b) = some (.bl (!decide (a = b))) := rfl
theorem lcM_nil {g : GF} {t : BF} {f : EF} {vs : List Nat} {acc : List D} {S : Ms} : lcM g t f vs [] acc S = some (acc, S) := rfl
theorem lcM_cons {g : GF} {t : BF} {f : EF} {vs : List Nat} {d : D} {ds acc : List D} {S : Ms} : lcM g t f vs (d :: ds) acc S = (g d ⟨wipeR S.r vs, S.m⟩).bind fun S1 => (t S1).bind fun p => if p.1 then (f p.2).bind fun q => if acc.length < LIM then lcM g t f vs ds (acc ++ [q.1]) ⟨restR S.r q.2.r vs, q.2.m⟩ else none
    else lcM g t f vs ds acc ⟨restR S.r p.2.r vs, p.2.m⟩ := rfl
/-- one turn of a comprehension -/
def stepC (g : GF) (t : BF) (f : EF) (vs : List Nat) (S : Ms) (d : D) : Option (Option D × Ms) := (g d ⟨wipeR S.r vs, S.m⟩).bind fun S1 => (t S1).bind fun p => if p.1 then (f p.2).bind fun q => some (some q.1, ⟨restR S.r q.2.r vs, q.2.m⟩)
    else some (none, ⟨restR S.r p.2.r vs, p.2.m⟩)
theorem lc_gen {α : Type} {g : GF} {t : BF} {f : EF} {vs : List Nat} {S : Ms} (enc : α → D) (F : α → Option D) : ∀ (xs : List α) (acc : List D), (∀ x ∈ xs, stepC g t f vs S (enc x) = some (F x, S)) → acc.length + xs.length ≤ 1000000 →
    lcM g t f vs (xs.map enc) acc S = some (acc ++ xs.filterMap F, S) := by
  intro xs
  induction xs with
  | nil => intro acc _ _; simp [lcM_nil]
  | cons x xs ih =>
    intro acc h hl
    have h1 := h x (by simp)
    have h2 : ∀ y ∈ xs, stepC g t f vs S (enc y) = some (F y, S) := fun y hy => h y (by simp [hy])
    simp only [List.length_cons] at hl
    rw [List.map_cons, lcM_cons]
    unfold stepC at h1
    obtain ⟨S1, e1, h1⟩ := bind_some h1
    obtain ⟨⟨b, S2⟩, e2, h1⟩ := bind_some h1
    rw [e1]
    simp only [Option.bind_some, e2]
    cases b with
    | true =>
      simp only [if_true] at h1 ⊢
      obtain ⟨⟨z, S3⟩, e3, h1⟩ := bind_some h1
      simp only [Option.some.injEq, Prod.mk.injEq] at h1
      obtain ⟨hF, hS⟩ := h1
      rw [e3]
      simp only [Option.bind_some]
      rw [if_pos (show acc.length < LIM by unfold LIM; omega)]
      rw [hS, ih _ h2 (by simp only [List.length_append, List.length_cons, List.length_nil]; omega)]
      rw [List.filterMap_cons, ← hF]
      simp
    | false =>
      simp only [Bool.false_eq_true, if_false, Option.some.injEq, Prod.mk.injEq] at h1 ⊢
      obtain ⟨hF, hS⟩ := h1
      rw [hS, ih _ h2 (by omega)]
      rw [List.filterMap_cons, ← hF]
theorem lc_map {α : Type} {g : GF} {t : BF} {f : EF} {vs : List Nat} {S : Ms} (enc : α → D) (F : α → D) (xs : List α) (h : ∀ x ∈ xs, stepC g t f vs S (enc x) = some (some (F x), S)) (hl : xs.length ≤ 1000000) :
    lcM g t f vs (xs.map enc) [] S = some (xs.map F, S) := by
  rw [lc_gen enc (fun x => some (F x)) xs [] h (by simpa using hl)]
  simp [List.filterMap_eq_map']
/-- a loop by an invariant of what is left -/
theorem forM_inv {α : Type} {g : GF} {b : SF} (enc : α → D) (Inv : List α → Ms → Prop) (h : ∀ x rest S, Inv (x :: rest) S → ∃ S1 S2, g (enc x) S = some S1 ∧ (b S1 = some (.nx, S2) ∨ b S1 = some (.ct, S2)) ∧ Inv rest S2) : ∀ (xs : List α) (S : Ms), Inv xs S →
    ∃ S', forM g b (xs.map enc) S = some (.nx, S') ∧ Inv [] S' := by
  intro xs
  induction xs with
  | nil => intro S i; exact ⟨S, rfl, i⟩
  | cons x xs ih =>
    intro S i
    obtain ⟨S1, S2, e1, e2, i2⟩ := h x xs S i
    obtain ⟨S', e, i'⟩ := ih S2 i2
    refine ⟨S', ?_, i'⟩
    rw [List.map_cons, forM_cons, e1]
    rcases e2 with e2 | e2 <;> simp [e2, e]
end
end M

/-! own classes: instances are cells; attributes, methods, making -/
namespace M
open PySem PySem.Spec L2
def putD (f : Str) (v : D) : List (Str × D) → List (Str × D)
  | [] => [(f, v)]
  | (g, x) :: r => if g = f then (g, v) :: r else (g, x) :: putD f v r
def lkD (f : Str) : List (Str × D) → Option D
  | [] => none
  | (g, x) :: r => if g = f then some x else lkD f r
section
variable {K : PySem.W.Frag} {W : Wd}
theorem RF.put {f : Str} {v : V} {d : D} (h : RV K W.F W.io v d) : ∀ {fv : List (Str × V)} {fd : List (Str × D)}, RF K W fv fd → RF K W (putF f v fv) (putD f d fd)
  | _, _, .nil => .cons ⟨rfl, h⟩ .nil
  | (g, x) :: r, (g', y) :: r', .cons a t => by
    obtain ⟨e, q⟩ := a
    cases e
    show RF K W (if g = f then _ else _) (if g = f then _ else _)
    by_cases hg : g = f
    · rw [if_pos hg, if_pos hg]; exact .cons ⟨rfl, h⟩ t
    · rw [if_neg hg, if_neg hg]; exact .cons ⟨rfl, q⟩ (RF.put h t)
theorem RF.look {f : Str} {d : D} : ∀ {fv : List (Str × V)} {fd : List (Str × D)}, RF K W fv fd → lkD f fd = some d → ∃ v, fv.lookup f = some v ∧ RV K W.F W.io v d
  | _, _, .nil, e => by cases e
  | (g, x) :: r, (g', y) :: r', .cons a t, e => by
    obtain ⟨ee, q⟩ := a
    cases ee
    unfold lkD at e
    by_cases hg : g = f
    · rw [if_pos hg] at e
      cases e
      refine ⟨x, ?_, q⟩
      have hb : (f == g) = true := beq_iff_eq.mpr hg.symm
      simp only [List.lookup, hb]
    · rw [if_neg hg] at e
      obtain ⟨v, e1, e2⟩ := RF.look t e
      refine ⟨v, ?_, e2⟩
      have hb : (f == g) = false := beq_eq_false_iff_ne.mpr fun z => hg z.symm
      simp only [List.lookup, hb, e1]
theorem RF.lookN {f : Str} : ∀ {fv : List (Str × V)} {fd : List (Str × D)}, RF K W fv fd → lkD f fd = none → fv.lookup f = none
  | _, _, .nil, e => rfl
  | (g, x) :: r, (g', y) :: r', .cons a t, e => by
    obtain ⟨ee, q⟩ := a
    cases ee
    unfold lkD at e
    by_cases hg : g = f
    · rw [if_pos hg] at e; cases e
    · rw [if_neg hg] at e
      have hb : (f == g) = false := beq_eq_false_iff_ne.mpr fun z => hg z.symm
      simp only [List.lookup, hb]
      exact RF.lookN t e
theorem RF.len : ∀ {fv : List (Str × V)} {fd : List (Str × D)}, RF K W fv fd → fv.length = fd.length
  | _, _, .nil => rfl
  | _, _, .cons _ t => congrArg (· + 1) (RF.len t)
end
/-- the instance of the class C that d tells -/
def objAt (C : Addr) (S : Ms) (d : D) : Option (Nat × List (Str × D)) := match d with
  | .ref k => match S.m[k]? with
    | some (.obj C' fs) => if C' = C then some (k, fs) else none
    | _ => none
  | _ => none
theorem objAt_ok {K : PySem.W.Frag} {W : Wd} {S : Ms} {s : L2.St} {C : Addr} {d : D} {v : V} {k : Nat} {fs : List (Str × D)} (R : Rel K W S s) (r : RV K W.F W.io v d) (h : objAt C S d = some (k, fs)) :
    d = .ref k ∧ S.m[k]? = some (.obj C fs) ∧ ∃ a dx fv, v = .ref a ∧ W.io[k]? = some a ∧ W.H a = some (.ins C dx fv) ∧ RF K W fv fs := by
  unfold objAt at h
  split at h
  · rename_i k0
    split at h
    · rename_i C' fs' e
      split at h
      · rename_i c
        subst c
        cases h
        obtain ⟨a, rfl, e1⟩ := r.ref_inv
        obtain ⟨dx, fv, h1, h2⟩ := R.cells _ _ a e e1
        exact ⟨rfl, e, a, dx, fv, rfl, e1, h1, h2⟩
      · cases h
    · cases h
  · cases h
def eFld (C : Addr) (a : Str) (f : EF) : EF := fun S => (f S).bind fun p => (objAt C p.2 p.1).bind fun q => (lkD a q.2).bind fun d => some (d, p.2)
def sFldM (C : Addr) (a : Str) (fo fe : EF) : SF := fun S => (fe S).bind fun p => (fo p.2).bind fun q => (objAt C q.2 q.1).bind fun r => if r.2.length < 1000 then some (.nx, ⟨q.2.r, q.2.m.set r.1 (.obj C (putD a p.1 r.2))⟩) else none
/-- a new list or dict goes into an attribute: as a cell -/
def sFldC (C : Addr) (a : Str) (fo : EF) (fc : CF) : SF := fun S => (fc S).bind fun p => (fo ⟨p.2.r, p.2.m ++ [p.1]⟩).bind fun q => (objAt C q.2 q.1).bind fun r => if r.2.length < 1000 then some (.nx, ⟨q.2.r, q.2.m.set r.1 (.obj C (putD a (.ref p.2.m.length) r.2))⟩) else none
def sFldAugM (C : Addr) (a : Str) (op : Int → Int → Int) (fo fe : EF) : SF := fun S => (fo S).bind fun q => (objAt C q.2 q.1).bind fun r => match lkD a r.2 with
  | some (.int i) => (fe q.2).bind fun p => match p.1 with
    | .int j => (objAt C p.2 q.1).bind fun r' => if r'.2.length < 1000 then some (.nx, ⟨p.2.r, p.2.m.set r'.1 (.obj C (putD a (.int (op i j)) r'.2))⟩) else none
    | _ => none
  | _ => none
def eMake (C : Addr) (n : Nat) (ff : FF) (fa : AF) : EF := fun S => (fa S).bind fun p => if p.1.length + 1 = n then (ff (.ref p.2.m.length :: p.1) (p.2.m ++ [.obj C []])).bind fun q => match q.1 with
    | .non => some (.ref p.2.m.length, ⟨p.2.r, q.2⟩)
    | _ => none
  else none
def eMeth (C : Addr) (m : Str) (n : Nat) (ff : FF) (fo : EF) (fa : AF) : EF := fun S => (fo S).bind fun o => (objAt C o.2 o.1).bind fun r => match lkD m r.2 with
  | none => (fa o.2).bind fun p => if p.1.length + 1 = n then (ff (o.1 :: p.1) p.2.m).bind fun q => some (q.1, ⟨p.2.r, q.2⟩) else none
  | some _ => none
structure Fmm (P : Program) (w : World) (K : PySem.W.Frag) (mg : Str → Option Value) (base : Heap) (k : Nat) (C : Addr) (m : Str) (ps : List Str) (ff : FF) : Prop where
  ex : ∃ (f : Addr) (fd : FuncData), FnOk P w K mg base CX0 k f fd ps (spM K ps.length ff) ∧ Meth K C m f ∧ Binds K fd ps []
structure Fii (P : Program) (w : World) (K : PySem.W.Frag) (mg : Str → Option Value) (base : Heap) (k : Nat) (C : Addr) (ps : List Str) (ff : FF) : Prop where
  ex : ∃ (f : Addr) (fd : FuncData), FnOk P w K mg base CX0 k f fd ps (spM K ps.length ff) ∧ Mk K C f ∧ Binds K fd ps []
section
variable {X : Cx} {C : Addr} {a m : Str} {e o value : Expr} {es : List Expr} {fe fo : EF} {fa : AF} {fc : CF} {pos pos' apos p : Pos} {ps : List Str} {n k : Nat} {ff : FF} {x : Str}
theorem me_fld (c : Cls X.K C) (na : NoAttr X.K C a) (he : ME X e fe) (hb : attributeBase e a X.env (eval e X.env) = eval e X.env := by rfl) : ME X (.Attribute e a pos) (eFld C a fe) := by
  obtain ⟨t, p, q⟩ := he
  refine ⟨_, pe_fld p hb, fun S d S' h W s Q R k => ?_⟩
  obtain ⟨⟨d1, S1⟩, e1, h⟩ := bind_some h
  obtain ⟨⟨k1, fs⟩, e2, h⟩ := bind_some h
  obtain ⟨d2, e3, h⟩ := bind_some h
  cases h
  refine q S _ _ e1 W s _ R fun v W1 R1 f1 r1 => ?_
  obtain ⟨_, _, b, dx, fv, rfl, _, h1, h2⟩ := objAt_ok R1 r1 e2
  obtain ⟨v2, e4, r2⟩ := h2.look e3
  exact ⟨b, C, dx, fv, v2, rfl, h1, c, na, e4, k v2 W1 R1 f1 r2⟩
theorem ms_fld (c : Cls X.K C) (na : NoAttr X.K C a) (ho : ME X o fo) (he : ME X value fe) (hs : swapsWith value (some (.Attribute o a pos')) pos.line X.env = pure false := by rfl) : MS X (.Assign [.Attribute o a pos'] value pos) (sFldM C a fo fe) := by
  obtain ⟨t, p, q⟩ := ho
  obtain ⟨t2, p2, q2⟩ := he
  refine ⟨_, ps_fld p p2 hs, fun S fl S' h W s D R k => ?_⟩
  obtain ⟨⟨d1, S1⟩, e1, h⟩ := bind_some h
  obtain ⟨⟨d2, S2⟩, e2, h⟩ := bind_some h
  obtain ⟨⟨k1, fs⟩, e3, h⟩ := bind_some h
  simp only at h
  split at h
  · rename_i hl
    cases h
    refine q2 S _ _ e1 W s _ R fun y W1 R1 f1 r1 => ?_
    refine q S1 _ _ e2 W1 s _ R1 fun v W2 R2 f2 r2 => ?_
    obtain ⟨_, _, b, dx, fv, rfl, hio, h1, h2⟩ := objAt_ok R2 r2 e3
    obtain ⟨R3, f3⟩ := R2.wrCell (o := .ins C dx (putF a y fv)) hio (c' := .obj C (putD a d1 fs)) ⟨dx, _, upd_same, h2.put (r1.up f2)⟩
    exact ⟨b, C, dx, fv, rfl, h1, c, na, by rw [h2.len]; exact hl, k (W2.wr b _) _ R3 ((f1.trans f2).trans f3)⟩
  · cases h
theorem ms_fldC (c : Cls X.K C) (na : NoAttr X.K C a) (ho : ME X o fo) (he : MF X value fc) (hs : swapsWith value (some (.Attribute o a pos')) pos.line X.env = pure false := by rfl) : MS X (.Assign [.Attribute o a pos'] value pos) (sFldC C a fo fc) := by
  obtain ⟨t, p, q⟩ := ho
  obtain ⟨t2, p2, q2⟩ := he
  refine ⟨_, ps_fld p p2 hs, fun S fl S' h W s D R k => ?_⟩
  obtain ⟨⟨d1, S1⟩, e1, h⟩ := bind_some h
  obtain ⟨⟨d2, S2⟩, e2, h⟩ := bind_some h
  obtain ⟨⟨k1, fs⟩, e3, h⟩ := bind_some h
  simp only at h
  split at h
  · rename_i hl
    cases h
    refine q2 S _ _ e1 W s _ R fun y W1 R1 f1 hp nw => ?_
    obtain ⟨R1', f1', r1⟩ := R1.addCell f1 hp nw
    refine q _ _ _ e2 (W1.cl y) s _ R1' fun v W2 R2 f2 r2 => ?_
    obtain ⟨_, _, b, dx, fv, rfl, hio, h1, h2⟩ := objAt_ok R2 r2 e3
    obtain ⟨R3, f3⟩ := R2.wrCell (o := .ins C dx (putF a (.ref y) fv)) hio (c' := .obj C (putD a (.ref S1.m.length) fs)) ⟨dx, _, upd_same, h2.put (r1.up f2)⟩
    exact ⟨b, C, dx, fv, rfl, h1, c, na, by rw [h2.len]; exact hl, k (W2.wr b _) _ R3 ((f1'.trans f2).trans f3)⟩
  · cases h
theorem ms_fldAug {op : Operator} {f : Int → Int → Int} (hop : InOp X op (fun x y H Q => ∃ i j, x = .int i ∧ y = .int j ∧ Q (.int (f i j)) H)) (c : Cls X.K C) (na : NoAttr X.K C a) (ho : ME X o fo) (he : ME X value fe) : MS X (.AugAssign (.Attribute o a pos') op value pos) (sFldAugM C a f fo fe) := by
  obtain ⟨t, p, q⟩ := ho
  obtain ⟨t2, p2, q2⟩ := he
  refine ⟨_, ps_fldaug p p2 hop, fun S fl S' h W s D R k => ?_⟩
  obtain ⟨⟨d1, S1⟩, e1, h⟩ := bind_some h
  obtain ⟨⟨k1, fs⟩, e2, h⟩ := bind_some h
  simp only at h
  split at h
  · rename_i i ei
    obtain ⟨⟨d2, S2⟩, e3, h⟩ := bind_some h
    simp only at h
    split at h
    · rename_i j
      obtain ⟨⟨k2, fs2⟩, e4, h⟩ := bind_some h
      simp only at h
      split at h
      · rename_i hl
        cases h
        refine q S _ _ e1 W s _ R fun v W1 R1 f1 r1 => ?_
        obtain ⟨_, _, b, dx, fv, rfl, hio, h1, h2⟩ := objAt_ok R1 r1 e2
        obtain ⟨v2, e5, r2⟩ := h2.look ei
        cases r2.int_inv
        refine ⟨b, C, dx, fv, _, rfl, h1, c, na, e5, ?_⟩
        refine q2 S1 _ _ e3 W1 s _ R1 fun y W2 R2 f2 r3 => ?_
        cases r3.int_inv
        obtain ⟨_, _, b', dx', fv', eb, hio', h1', h2'⟩ := objAt_ok R2 (r1.up f2) e4
        cases eb
        obtain ⟨R3, f3⟩ := R2.wrCell (o := .ins C dx' (putF a (.int (f i j)) fv')) hio' (c' := .obj C (putD a (.int (f i j)) fs2)) ⟨dx', _, upd_same, h2'.put (.int _)⟩
        exact ⟨i, j, rfl, rfl, dx', fv', h1', by rw [h2'.len]; exact hl, k (W2.wr b _) _ R3 ((f1.trans f2).trans f3)⟩
      · cases h
    · cases h
  · cases h
theorem ma_nil0 {K : PySem.W.Frag} : TAok K tNil aNil := fun S d S' h W s Q R k => by cases h; exact k _ W R .refl .nil
theorem te_meth {ps : List Str} {t : TE} {ta : TA} {E : XK} (q : TEok X.K t fo) (qa : TAok X.K ta fa) : TEok X.K (tMeth C m (spM X.K n ff) [] E t ta) (eMeth C m n ff fo fa) := by
  intro S d S' h W s Q R k
  obtain ⟨⟨d1, S1⟩, e1, h⟩ := bind_some h
  obtain ⟨⟨k1, fs⟩, e2, h⟩ := bind_some h
  simp only at h
  split at h
  · rename_i el
    obtain ⟨⟨ds, S2⟩, e3, h⟩ := bind_some h
    simp only at h
    split at h
    · rename_i hn
      obtain ⟨⟨d3, m3⟩, e4, h⟩ := bind_some h
      cases h
      refine q S _ _ e1 W s _ R fun v W1 R1 f1 r1 => ?_
      obtain ⟨_, _, b, dx, fv, rfl, hio, h1, h2⟩ := objAt_ok R1 r1 e2
      refine ⟨b, dx, fv, rfl, h1, h2.lookN el, ?_⟩
      refine qa S1 _ _ e3 W1 s _ R1 fun vs W2 R2 f2 r2 => ?_
      refine ⟨by simp only [List.append_nil, List.length_cons]; rw [r2.length]; exact hn, W2, _, S2.m, _, _, rfl, R2.bare, by rw [List.append_nil]; exact .cons (r1.up f2) r2, e4, fun v W3 R3 f3 r3 => ?_⟩
      obtain ⟨R4, f4⟩ := R2.back R3 f3
      exact k v W3 R4 ((f1.trans f2).trans f4) r3
    · cases h
  · cases h
theorem me_meth (c : Cls X.K C) (G : Fmm X.prog X.w X.K X.mg X.base k C m ps ff) (hr : Room k X.A) (ho : ME X o fo) (ha : MA X (e :: es) fa) (hn : ps.length = n := by rfl) {pl : Sem Bool}
    (hst : starEach (e :: es) X.env = (false, eval e X.env) :: starEach es X.env := by rfl) (hpl : (backTo pos (starEach es X.env)).any (·.1) = false := by rfl)
    (ht : eval (.Call (.Attribute o m apos) (e :: es) [] pos) X.env = (do
      let ov ← eval o X.env
      standAt apos.atName
      let (f, first) ← holding [ov] (getMethod ov m pl)
      callWith pos f first (backTo pos (starEach (e :: es) X.env)) (backToKw pos (keywordEach [] X.env))) := by rfl) :
    ME X (.Call (.Attribute o m apos) (e :: es) [] pos) (eMeth C m n ff fo fa) := by
  obtain ⟨t, p, q⟩ := ho
  obtain ⟨t2, p2, q2⟩ := ha
  obtain ⟨f, fd, F, M, B⟩ := G.ex
  rw [hn] at F
  exact ⟨_, pe_meth (pl := pl) p c M F hr B .nil pass0 p2 hst hpl ht, te_meth (ps := ps) q q2⟩
theorem me_meth0 (c : Cls X.K C) (G : Fmm X.prog X.w X.K X.mg X.base k C m ps ff) (hr : Room k X.A) (ho : ME X o fo) (hn : ps.length = n := by rfl) {pl : Sem Bool}
    (ht : eval (.Call (.Attribute o m apos) [] [] pos) X.env = (do
      let ov ← eval o X.env
      standAt apos.atName
      let (f, first) ← holding [ov] (getMethod ov m pl)
      callWith pos f first (backTo pos (starEach [] X.env)) (backToKw pos (keywordEach [] X.env))) := by rfl) :
    ME X (.Call (.Attribute o m apos) [] [] pos) (eMeth C m n ff fo aNil) := by
  obtain ⟨t, p, q⟩ := ho
  obtain ⟨f, fd, F, M, B⟩ := G.ex
  rw [hn] at F
  exact ⟨_, pe_meth0 (pl := pl) p c M F hr B .nil pass0 ht, te_meth (ps := ps) q ma_nil0⟩
theorem te_make {ta : TA} {E : XK} (qa : TAok X.K ta fa) : TEok X.K (tMake C (spM X.K n ff) [] E ta) (eMake C n ff fa) := by
  intro S d S' h W s Q R k
  obtain ⟨⟨ds, S1⟩, e1, h⟩ := bind_some h
  simp only at h
  split at h
  · rename_i hn
    obtain ⟨⟨d2, m2⟩, e2, h⟩ := bind_some h
    simp only at h
    split at h
    · cases h
      refine qa S _ _ e1 W s _ R fun vs W1 R1 f1 r1 => ?_
      intro x dx nx ndx ne
      obtain ⟨R2, f2⟩ := R1.wrNew (o := .own x) ndx
      have nx2 : (W1.wr dx (.own x)).H x = none := by
        show upd W1.H dx _ x = none
        rw [upd_ne ne.symm]; exact nx
      obtain ⟨R3, f3⟩ := R2.wrNew (o := .ins C dx []) nx2
      have nw : New X.K ((W1.wr dx (.own x)).wr x (.ins C dx [])) S1 s x (.obj C []) :=
        ⟨R1.freshF nx, R1.freshIo nx, R1.freshOwn nx, dx, [], upd_same, .nil⟩
      obtain ⟨R4, f4, r4⟩ := R3.addCell (f2.trans f3) nx nw
      refine ⟨by simp only [List.append_nil, List.length_cons]; rw [r1.length]; exact hn, _, _, _, _, _, rfl, R4.bare, by rw [List.append_nil]; exact .cons r4 (r1.up f4), e2, fun v W5 R5 f5 r5 => ?_⟩
      obtain ⟨R6, f6⟩ := R4.back R5 f5
      exact ⟨r5.non_inv, k _ W5 R6 ((f1.trans f4).trans f6) (r4.up f6)⟩
    · cases h
  · cases h
theorem me_make (G : Fii X.prog X.w X.K X.mg X.base k C ps ff) (hr : Room (k + 1) X.A) (hm : X.mg x = some (.ref C)) (ha : MA X (e :: es) fa) (hn : ps.length = n := by rfl)
    (hg : Gl X x := by rfl) (hdb : (x == ("__debug__" : Str)) = false := by decide) (he : starEach (e :: es) X.env = (false, eval e X.env) :: starEach es X.env := by rfl) (hpl : (backTo pos (starEach es X.env)).any (·.1) = false := by rfl) :
    ME X (.Call (.Name x p) (e :: es) [] pos) (eMake C n ff fa) := by
  obtain ⟨t2, p2, q2⟩ := ha
  obtain ⟨f, fd, F, M, B⟩ := G.ex
  rw [hn] at F
  exact ⟨_, pe_make M F hr hg hm B .nil pass0 p2 hdb he hpl, te_make q2⟩
theorem me_make0 (G : Fii X.prog X.w X.K X.mg X.base k C ps ff) (hr : Room (k + 1) X.A) (hm : X.mg x = some (.ref C)) (hn : ps.length = n := by rfl)
    (hg : Gl X x := by rfl) (hdb : (x == ("__debug__" : Str)) = false := by decide) : ME X (.Call (.Name x p) [] [] pos) (eMake C n ff aNil) := by
  obtain ⟨f, fd, F, M, B⟩ := G.ex
  rw [hn] at F
  exact ⟨_, pe_make0 M F hr hg hm B .nil pass0 hdb, te_make ma_nil0⟩
end
section
variable {P : Program} {w : World} {K : PySem.W.Frag} {mg : Str → Option Value} {base : Heap}
theorem fmm {x qual : Str} {st : Stmt} {f C : Addr} {fd : FuncData} {N ps : List Str} {k : Nat} {b : SF} (F : Fun K x qual st f fd) (hm : Meth K C x f) (S : FnScope N ps (defScope st))
    (hbi : ∀ (kV doc pm : Value) (an : Option Addr) (cdv ct : Value) (us : List Value), us.length = ps.length → bindArgs (PySem.W.fnOf x qual (defArgs st) (defBody st) (defScope st) .none kV doc pm an cdv ct) ⟨us, []⟩ = pure (ps.zip us))
    (hb : ∀ (cdv : Value) (A : Around) (outer : List Env) (s : Shared) (H : Hp) (E : XK), Room k (A.deeper (PyProof.Rows.envOfC qual (defScope st) s.heap.objs.size f cdv)) →
      MSs (cxOf CX0 P w K mg base N qual (defScope st) f cdv A outer s H E).nox (defBody st) b) : Fmm P w K mg base (k + 1) C x ps (fnM N.length b) :=
  ⟨f, fd, fn_ok F S hb, hm, F.binds hbi⟩
theorem fii {x qual : Str} {st : Stmt} {f C : Addr} {fd : FuncData} {N ps : List Str} {k : Nat} {b : SF} (F : Fun K x qual st f fd) (hm : Mk K C f) (S : FnScope N ps (defScope st))
    (hbi : ∀ (kV doc pm : Value) (an : Option Addr) (cdv ct : Value) (us : List Value), us.length = ps.length → bindArgs (PySem.W.fnOf x qual (defArgs st) (defBody st) (defScope st) .none kV doc pm an cdv ct) ⟨us, []⟩ = pure (ps.zip us))
    (hb : ∀ (cdv : Value) (A : Around) (outer : List Env) (s : Shared) (H : Hp) (E : XK), Room k (A.deeper (PyProof.Rows.envOfC qual (defScope st) s.heap.objs.size f cdv)) →
      MSs (cxOf CX0 P w K mg base N qual (defScope st) f cdv A outer s H E).nox (defBody st) b) : Fii P w K mg base (k + 1) C ps (fnM N.length b) :=
  ⟨f, fd, fn_ok F S hb, hm, F.binds hbi⟩
end
/-- what is asked of the law, with no address in it -/
def spLw (K : PySem.W.Frag) : Sp := fun vs H Q _ => ∃ (a : Addr) (ns : List Int), vs = [.ref a] ∧ SqL K H a (ns.map V.int) ∧ ns.length ≤ 63 ∧ (∀ z ∈ ns, Builtin.Int.intBits z ≤ 1048576) ∧ ∀ v H', v = .bl true → Q v H'
theorem spLw_imp {K : PySem.W.Frag} {ff : FF} (h : ∀ ns : List Int, ns.length ≤ 63 → (∀ z ∈ ns, Builtin.Int.intBits z ≤ 1048576) → ∃ m, ff [.sc (ns.map D.int)] [] = some (.bl true, m)) : ∀ vs H Q E, spLw K vs H Q E → spM K 1 ff vs H Q E := fun vs H Q E ⟨a, ns, e, hS, hl, hb, k⟩ => by
  obtain ⟨m', em⟩ := h ns hl hb
  subst e
  exact ⟨rfl, ⟨H, H, []⟩, [.sc (ns.map D.int)], [], .bl true, m', rfl, ⟨fun _ _ h => h, List.nodup_nil, fun a h => by simp at h, rfl, fun k c a h => by simp at h, rfl, fun i d h => by simp at h, fun i c h => by simp at h, fun i j c c' a h => by simp at h⟩,
    .cons (.sc hS (RVs.ints ns)) .nil, em, fun v W' _ _ r => k v _ r.bl_inv⟩
section
variable {C : Addr} {a m : Str} {S : Ms} {f fo fe : EF} {fa : AF} {fc : CF} {n : Nat} {ff : FF} {op : Int → Int → Int}
@[simp] theorem eFld_ap : eFld C a f S = (f S).bind fun p => (objAt C p.2 p.1).bind fun q => (lkD a q.2).bind fun d => some (d, p.2) := rfl
@[simp] theorem sFldM_ap : sFldM C a fo fe S = (fe S).bind fun p => (fo p.2).bind fun q => (objAt C q.2 q.1).bind fun r => if r.2.length < 1000 then some (.nx, ⟨q.2.r, q.2.m.set r.1 (.obj C (putD a p.1 r.2))⟩) else none := rfl
@[simp] theorem sFldC_ap : sFldC C a fo fc S = (fc S).bind fun p => (fo ⟨p.2.r, p.2.m ++ [p.1]⟩).bind fun q => (objAt C q.2 q.1).bind fun r => if r.2.length < 1000 then some (.nx, ⟨q.2.r, q.2.m.set r.1 (.obj C (putD a (.ref p.2.m.length) r.2))⟩) else none := rfl
@[simp] theorem sFldAugM_ap : sFldAugM C a op fo fe S = (fo S).bind fun q => (objAt C q.2 q.1).bind fun r => match lkD a r.2 with
  | some (.int i) => (fe q.2).bind fun p => match p.1 with
    | .int j => (objAt C p.2 q.1).bind fun r' => if r'.2.length < 1000 then some (.nx, ⟨p.2.r, p.2.m.set r'.1 (.obj C (putD a (.int (op i j)) r'.2))⟩) else none
    | _ => none
  | _ => none := rfl
@[simp] theorem eMake_ap : eMake C n ff fa S = (fa S).bind fun p => if p.1.length + 1 = n then (ff (.ref p.2.m.length :: p.1) (p.2.m ++ [.obj C []])).bind fun q => match q.1 with
    | .non => some (.ref p.2.m.length, ⟨p.2.r, q.2⟩)
    | _ => none
  else none := rfl
@[simp] theorem eMeth_ap : eMeth C m n ff fo fa S = (fo S).bind fun o => (objAt C o.2 o.1).bind fun r => match lkD m r.2 with
  | none => (fa o.2).bind fun p => if p.1.length + 1 = n then (ff (o.1 :: p.1) p.2.m).bind fun q => some (q.1, ⟨p.2.r, q.2⟩) else none
  | some _ => none := rfl
@[simp] theorem objAt_ref {k : Nat} : objAt C S (.ref k) = match S.m[k]? with
    | some (.obj C' fs) => if C' = C then some (k, fs) else none
    | _ => none := rfl
@[simp] theorem lkD_nil : lkD a [] = none := rfl
@[simp] theorem lkD_cons {g : Str} {x : D} {r : List (Str × D)} : lkD a ((g, x) :: r) = if g = a then some x else lkD a r := rfl
@[simp] theorem putD_nil {v : D} : putD a v [] = [(a, v)] := rfl
@[simp] theorem putD_cons {g : Str} {x v : D} {r : List (Str × D)} : putD a v ((g, x) :: r) = if g = a then (g, v) :: r else (g, x) :: putD a v r := rfl
end
end M

/-! dicts with tuple keys (as cells), lists in attributes, lists of lists that change, [::-1] -/
namespace M
open PySem PySem.Spec L2
/-! keys -/
def keyD : D → Option Key
  | .int i => some (.inl i)
  | .str s => some (.inr s)
  | _ => none
def keysD : List D → Option (List Key)
  | [] => some []
  | d :: r => (keyD d).bind fun k => (keysD r).bind fun q => some (k :: q)
theorem keysD_ok {K : PySem.W.Frag} {F : Hp} {io : List Addr} : ∀ {vs : List V} {ds : List D} {ks : List Key}, RVs K F io vs ds → keysD ds = some ks → vs = ks.map kV
  | _, _, _, .nil, h => by cases h; rfl
  | _, _, _, .cons r t, h => by
    obtain ⟨k, e1, h⟩ := bind_some h
    obtain ⟨q, e2, h⟩ := bind_some h
    cases h
    have ih := keysD_ok t e2
    subst ih
    unfold keyD at e1
    split at e1
    · cases e1; cases r.int_inv; rfl
    · cases e1; cases r.str_inv; rfl
    · cases e1
abbrev KF := Ms → Option (List Key × Ms)
def TKok (K : PySem.W.Frag) (t : TE) (f : KF) : Prop := ∀ S ks S', f S = some (ks, S') → ∀ W s (Q : VK), Rel K W S s → (∀ b W', Rel K W' S' s → Fr W S.r s W' S'.r s → W'.F b = some (.tup (ks.map kV)) → Q (.ref b) W'.H) → t s W.H Q
def MKy (X : Cx) (e : Expr) (f : KF) : Prop := ∃ t, PE X e t ∧ TKok X.K t f
def kTup (a : AF) : KF := fun S => (a S).bind fun p => (keysD p.1).bind fun ks => if p.1.length ≤ LIM then some (ks, p.2) else none
/-- what is kept under a key -/
def vT (kds : List (List Key × D)) (k : List Key) : Option D := match kds with
  | [] => none
  | (j, d) :: r => if j = k then some d else vT r k
def pT (kds : List (List Key × D)) (k : List Key) (d : D) : List (List Key × D) := if (vT kds k).isSome then kds.map fun kd => if kd.1 = k then (kd.1, d) else kd else kds ++ [(k, d)]
section
variable {K : PySem.W.Frag} {W : Wd}
theorem RT.look {k : List Key} : ∀ {kvs : List (List Key × V)} {kds : List (List Key × D)}, RT K W kvs kds → (vT kds k = none → valV kvs k = none) ∧ ∀ d, vT kds k = some d → ∃ v, valV kvs k = some v ∧ RV K W.F W.io v d
  | _, _, .nil => ⟨fun _ => rfl, fun d h => by cases h⟩
  | (j, x) :: r, (j', y) :: r', .cons a t => by
    obtain ⟨e, q⟩ := a
    cases e
    obtain ⟨i1, i2⟩ := RT.look (k := k) t
    unfold vT
    by_cases h : j = k
    · rw [if_pos h, valV_pos (p := (j, x)) h]
      exact ⟨(fun z => by cases z), (fun d z => by cases z; exact ⟨x, rfl, q⟩)⟩
    · rw [if_neg h, valV_neg (p := (j, x)) h]
      exact ⟨i1, i2⟩
theorem RT.len : ∀ {kvs : List (List Key × V)} {kds : List (List Key × D)}, RT K W kvs kds → kvs.length = kds.length
  | _, _, .nil => rfl
  | _, _, .cons _ t => congrArg (· + 1) (RT.len t)
theorem RT.repl {k : List Key} {v : V} {d : D} (h : RV K W.F W.io v d) : ∀ {kvs : List (List Key × V)} {kds : List (List Key × D)}, RT K W kvs kds → RT K W (kvs.map fun kv => if kv.1 = k then (kv.1, v) else kv) (kds.map fun kd => if kd.1 = k then (kd.1, d) else kd)
  | _, _, .nil => .nil
  | (j, x) :: r, (j', y) :: r', .cons a t => by
    obtain ⟨e, q⟩ := a
    cases e
    refine .cons ?_ (RT.repl h t)
    by_cases c : j = k
    · dsimp only; rw [if_pos c, if_pos c]; exact ⟨rfl, h⟩
    · dsimp only; rw [if_neg c, if_neg c]; exact ⟨rfl, q⟩
theorem RT.snoc {k : List Key} {v : V} {d : D} (h : RV K W.F W.io v d) : ∀ {kvs : List (List Key × V)} {kds : List (List Key × D)}, RT K W kvs kds → RT K W (kvs ++ [(k, v)]) (kds ++ [(k, d)])
  | _, _, .nil => .cons ⟨rfl, h⟩ .nil
  | _, _, .cons a t => .cons a (RT.snoc h t)
theorem RT.put {k : List Key} {v : V} {d : D} (h : RV K W.F W.io v d) {kvs : List (List Key × V)} {kds : List (List Key × D)} (r : RT K W kvs kds) : RT K W (putK kvs k v) (pT kds k d) := by
  unfold putK pT
  have hs : (kvs.any fun kv => decide (kv.1 = k)) = (vT kds k).isSome := by
    rw [valV_any]
    obtain ⟨i1, i2⟩ := r.look (k := k)
    cases e : vT kds k with
    | none => rw [i1 e]; rfl
    | some d' => obtain ⟨v', e', _⟩ := i2 d' e; rw [e']; rfl
  rw [hs]
  split
  · exact r.repl h
  · exact r.snoc h
end
/-- the dict that d tells -/
def dTAt (S : Ms) (d : D) : Option (Nat × List (List Key × D)) := match d with
  | .ref k => match S.m[k]? with
    | some (.dT kds) => some (k, kds)
    | _ => none
  | _ => none
theorem dTAt_ok {K : PySem.W.Frag} {W : Wd} {S : Ms} {s : L2.St} {d : D} {v : V} {k : Nat} {kds : List (List Key × D)} (R : Rel K W S s) (r : RV K W.F W.io v d) (h : dTAt S d = some (k, kds)) :
    d = .ref k ∧ ∃ a kvs, v = .ref a ∧ W.io[k]? = some a ∧ W.H a = some (.dT kvs) ∧ RT K W kvs kds := by
  unfold dTAt at h
  split at h
  · rename_i k0
    split at h
    · rename_i kds' e
      cases h
      obtain ⟨a, rfl, e1⟩ := r.ref_inv
      obtain ⟨kvs, h1, h2⟩ := R.cells _ _ a e e1
      exact ⟨rfl, a, kvs, rfl, e1, h1, h2⟩
    · cases h
  · cases h
def eDGetT (fd : EF) (fk : KF) : EF := fun S => (fd S).bind fun p => (fk p.2).bind fun q => (dTAt q.2 p.1).bind fun r => (vT r.2 q.1).bind fun d => some (d, q.2)
def bDInT (neg : Bool) (fk : KF) (fd : EF) : BF := fun S => (fk S).bind fun q => (fd q.2).bind fun p => (dTAt p.2 p.1).bind fun r => some (xor neg (vT r.2 q.1).isSome, p.2)
def sDPutT (fd : EF) (fk : KF) (fv : EF) : SF := fun S => (fv S).bind fun v => (fd v.2).bind fun p => (fk p.2).bind fun q => (dTAt q.2 p.1).bind fun r => if r.2.length < LIM then some (.nx, ⟨q.2.r, q.2.m.set r.1 (.dT (pT r.2 q.1 v.1))⟩) else none
def cDT : CF := fun S => some (.dT [], S)
/-- the list that d tells, as a cell -/
def lAt (S : Ms) (d : D) : Option (Nat × List D) := match d with
  | .ref k => match S.m[k]? with
    | some (.lst ds) => some (k, ds)
    | _ => none
  | _ => none
theorem lAt_ok {K : PySem.W.Frag} {W : Wd} {S : Ms} {s : L2.St} {d : D} {v : V} {k : Nat} {ds : List D} (R : Rel K W S s) (r : RV K W.F W.io v d) (h : lAt S d = some (k, ds)) :
    d = .ref k ∧ ∃ a vs, v = .ref a ∧ W.io[k]? = some a ∧ W.H a = some (.lst vs) ∧ RVs K W.F W.io vs ds := by
  unfold lAt at h
  split at h
  · rename_i k0
    split at h
    · rename_i kds' e
      cases h
      obtain ⟨a, rfl, e1⟩ := r.ref_inv
      obtain ⟨kvs, h1, h2⟩ := R.cells _ _ a e e1
      exact ⟨rfl, a, kvs, rfl, e1, h1, h2⟩
    · cases h
  · cases h
def eAppE (fo fe : EF) : EF := fun S => (fo S).bind fun p => (lAt p.2 p.1).bind fun _ => (fe p.2).bind fun q => (lAt q.2 p.1).bind fun r => if r.2.length < LIM then some (.non, ⟨q.2.r, q.2.m.set r.1 (.lst (r.2 ++ [q.1]))⟩) else none
def gSubE (fo fi : EF) : GF := fun d S => (fo S).bind fun p => (fi p.2).bind fun q => (lAt q.2 p.1).bind fun r => match q.1 with
  | .int i => (ixN r.2.length i).bind fun j => some ⟨q.2.r, q.2.m.set r.1 (.lst (r.2.set j d))⟩
  | _ => none
/-- a new object, kept as a cell -/
def eCel (c : CF) : EF := fun S => (c S).bind fun p => some (.ref p.2.m.length, ⟨p.2.r, p.2.m ++ [p.1]⟩)
def cRev (f : EF) : CF := fun S => (f S).bind fun p => (seqD p.1).bind fun ds => match p.1 with
  | .tup _ => none
  | _ => some (.lst ds.reverse, p.2)
section
variable {X : Cx} {e o i value : Expr} {es : List Expr} {fe fo fi fd : EF} {fk : KF} {fa : AF} {fc : CF} {pos pos' apos p1 p2 p3 : Pos} {k : Nat}
theorem mk_tup (h : MA X es fa) : MKy X (.Tuple es k pos) (kTup fa) := by
  obtain ⟨t, p, q⟩ := h
  refine ⟨_, pe_tup p, fun S d S' h W s Q R k => ?_⟩
  obtain ⟨⟨ds, S1⟩, e1, h⟩ := bind_some h
  obtain ⟨ks, e2, h⟩ := bind_some h
  simp only at h
  split at h
  · rename_i c
    cases h
    refine q S _ _ e1 W s _ R fun vs W1 R1 f1 r1 => ?_
    refine ⟨by rw [r1.length]; exact Nat.le_trans c lim_line, fun p hp => ?_⟩
    have hk := keysD_ok r1 e2
    obtain ⟨R2, f2⟩ := R1.al (o := .tup vs) hp
    exact k p _ R2 (f1.trans f2) (by rw [← hk]; exact upd_same)
  · cases h
theorem me_dgetT (hu : X.A.units + 1 < cLine) (ho : ME X o fd) (hi : MKy X i fk) (hs : NoSl i := by intro _ _; rfl) : ME X (.Subscript o i pos) (eDGetT fd fk) := by
  obtain ⟨t, p, q⟩ := ho
  obtain ⟨t2, p2, q2⟩ := hi
  refine ⟨_, pe_dget hu p p2 hs, fun S d S' h W s Q R k => ?_⟩
  obtain ⟨⟨d1, S1⟩, e1, h⟩ := bind_some h
  obtain ⟨⟨ks, S2⟩, e2, h⟩ := bind_some h
  obtain ⟨⟨k1, kds⟩, e3, h⟩ := bind_some h
  obtain ⟨d2, e4, h⟩ := bind_some h
  cases h
  refine q S _ _ e1 W s _ R fun v W1 R1 f1 r1 => ?_
  refine q2 S1 _ _ e2 W1 s _ R1 fun b W2 R2 f2 hb => ?_
  obtain ⟨_, a, kvs, rfl, _, h1, h2⟩ := dTAt_ok R2 (r1.up f2) e3
  obtain ⟨v2, e5, r2⟩ := h2.look.2 _ e4
  exact ⟨a, v2, rfl, .inr ⟨kvs, ks, b, .inl h1, rfl, R2.sub _ _ hb, e5.symm⟩, k v2 W2 R2 (f1.trans f2) r2⟩
theorem RT.isSome {K : PySem.W.Frag} {W : Wd} {k : List Key} {kvs : List (List Key × V)} {kds : List (List Key × D)} (r : RT K W kvs kds) : (valV kvs k).isSome = (vT kds k).isSome := by
  obtain ⟨i1, i2⟩ := r.look (k := k)
  cases e : vT kds k with
  | none => rw [i1 e]; rfl
  | some d' => obtain ⟨v', e', _⟩ := i2 d' e; rw [e']; rfl
theorem mt_dinT (hu : X.A.units + 1 < cLine) (hi : MKy X i fk) (ho : ME X o fd) (h1 : behindInMarks .In o = false := by rfl) : MT X (.Compare i [.In] [o] pos) (bDInT false fk fd) := by
  obtain ⟨t, p, q⟩ := ho
  obtain ⟨t2, p2, q2⟩ := hi
  refine ⟨_, pt_cmp (pc_din hu p2 p) h1, fun S d S' h W s Q R k => ?_⟩
  obtain ⟨⟨ks, S1⟩, e1, h⟩ := bind_some h
  obtain ⟨⟨d1, S2⟩, e2, h⟩ := bind_some h
  obtain ⟨⟨k1, kds⟩, e3, h⟩ := bind_some h
  cases h
  refine q2 S _ _ e1 W s _ R fun b W1 R1 f1 hb => ?_
  refine q S1 _ _ e2 W1 s _ R1 fun v W2 R2 f2 r2 => ?_
  obtain ⟨_, a, kvs, rfl, _, g1, g2⟩ := dTAt_ok R2 r2 e3
  refine ⟨a, valV kvs ks, rfl, .inr ⟨kvs, ks, b, .inl g1, rfl, R2.sub _ _ (f2.fx _ _ hb), rfl⟩, _, rfl, ?_⟩
  rw [g2.isSome]
  have := k W2 R2 (f1.trans f2)
  simpa using this
theorem mt_dnotinT (hu : X.A.units + 1 < cLine) (hi : MKy X i fk) (ho : ME X o fd) (h1 : behindInMarks .NotIn o = false := by rfl) : MT X (.Compare i [.NotIn] [o] pos) (bDInT true fk fd) := by
  obtain ⟨t, p, q⟩ := ho
  obtain ⟨t2, p2, q2⟩ := hi
  refine ⟨_, pt_cmp (pc_dnotin hu p2 p) h1, fun S d S' h W s Q R k => ?_⟩
  obtain ⟨⟨ks, S1⟩, e1, h⟩ := bind_some h
  obtain ⟨⟨d1, S2⟩, e2, h⟩ := bind_some h
  obtain ⟨⟨k1, kds⟩, e3, h⟩ := bind_some h
  cases h
  refine q2 S _ _ e1 W s _ R fun b W1 R1 f1 hb => ?_
  refine q S1 _ _ e2 W1 s _ R1 fun v W2 R2 f2 r2 => ?_
  obtain ⟨_, a, kvs, rfl, _, g1, g2⟩ := dTAt_ok R2 r2 e3
  refine ⟨a, valV kvs ks, rfl, .inr ⟨kvs, ks, b, .inl g1, rfl, R2.sub _ _ (f2.fx _ _ hb), rfl⟩, _, rfl, ?_⟩
  rw [g2.isSome]
  have := k W2 R2 (f1.trans f2)
  simpa using this
theorem ms_dputT (hu : X.A.units + 1 < cLine) (ho : ME X o fd) (hi : MKy X i fk) (hv : ME X value fe) (hs : swapsWith value (some (.Subscript o i pos')) pos.line X.env = pure false := by rfl) :
    MS X (.Assign [.Subscript o i pos'] value pos) (sDPutT fd fk fe) := by
  obtain ⟨t, p, q⟩ := ho
  obtain ⟨t2, p2, q2⟩ := hi
  obtain ⟨t3, p3, q3⟩ := hv
  refine ⟨_, ps_dput hu p p2 p3 hs, fun S fl S' h W s D R k => ?_⟩
  obtain ⟨⟨dv, S1⟩, e1, h⟩ := bind_some h
  obtain ⟨⟨d1, S2⟩, e2, h⟩ := bind_some h
  obtain ⟨⟨ks, S3⟩, e3, h⟩ := bind_some h
  obtain ⟨⟨k1, kds⟩, e4, h⟩ := bind_some h
  simp only at h
  split at h
  · rename_i hl
    cases h
    refine q3 S _ _ e1 W s _ R fun v W1 R1 f1 r1 => ?_
    refine q S1 _ _ e2 W1 s _ R1 fun y W2 R2 f2 r2 => ?_
    refine q2 S2 _ _ e3 W2 s _ R2 fun b W3 R3 f3 hb => ?_
    obtain ⟨_, a, kvs, rfl, hio, g1, g2⟩ := dTAt_ok R3 (r2.up f3) e4
    obtain ⟨R4, f4⟩ := R3.wrCell (o := .dT (putK kvs ks v)) hio (c' := .dT (pT kds ks dv)) ⟨_, upd_same, g2.put ((r1.up f2).up f3)⟩
    exact ⟨a, _, rfl, .inr ⟨kvs, ks, b, g1, rfl, R3.sub _ _ hb, by rw [g2.len]; exact Nat.lt_of_lt_of_le hl lim_line, rfl⟩, k (W3.wr a _) _ R4 (((f1.trans f2).trans f3).trans f4)⟩
  · cases h
theorem mf_dT : MF X (.Dict [] [] pos) cDT := by
  refine ⟨_, pe_dnewT, fun S c S' h W s Q R k => ?_⟩
  cases h
  intro p hp
  obtain ⟨R1, f1⟩ := R.wrNew (o := .dT []) hp
  exact k p _ R1 f1 hp ⟨R.freshF hp, R.freshIo hp, R.freshOwn hp, [], upd_same, .nil⟩
theorem me_appE (ho : ME X o fo) (he : ME X e fe)
    (hbase : attributeBase o "append" X.env (eval o X.env) = eval o X.env := by rfl)
    (hfew : ((backTo pos (starEach [e] X.env)).all (fun x => !x.1) && (backToKw pos (keywordEach [] X.env)).all (fun x => x.1.isSome)
      && decide ([e].length + ([] : List Keyword).length + (if ([] : List Keyword).isEmpty then 0 else 1) < 30)) = true := by rfl)
    (hline : (apos.endLine == pos.line) = true := by rfl) (hs : starEach [e] X.env = (false, eval e X.env) :: starEach [] X.env := by rfl) (hplain : (backTo pos (starEach [] X.env)).any (·.1) = false := by rfl) :
    ME X (.Call (.Attribute o "append" apos) [e] [] pos) (eAppE fo fe) := by
  obtain ⟨t, p, q⟩ := ho
  obtain ⟨t2, p2, q2⟩ := he
  refine ⟨_, pe_bm PySem.F.plainAttrs_list PySem.F.slot_list_append PySem.F.type_list_append mt_append p (pa_cons p2 pa_nil hs) hbase hfew hline hs hplain, fun S d S' h W s Q R k => ?_⟩
  obtain ⟨⟨d1, S1⟩, e1, h⟩ := bind_some h
  obtain ⟨⟨k0, ds0⟩, e0, h⟩ := bind_some h
  obtain ⟨⟨d2, S2⟩, e2, h⟩ := bind_some h
  obtain ⟨⟨k1, ds⟩, e3, h⟩ := bind_some h
  simp only at h
  split at h
  · rename_i hl
    cases h
    refine q S _ _ e1 W s _ R fun v W1 R1 f1 r1 => ?_
    obtain ⟨_, a, vs0, rfl, _, g0, _⟩ := lAt_ok R1 r1 e0
    refine ⟨.inl ⟨rfl, vs0, .of g0⟩, ?_⟩
    refine q2 S1 _ _ e2 W1 s _ R1 fun y W2 R2 f2 r2 => ?_
    obtain ⟨_, a', vs, ea, hio, g1, g2⟩ := lAt_ok R2 (r1.up f2) e3
    cases ea
    obtain ⟨R3, f3⟩ := R2.wrCell (o := .lst (vs ++ [y])) hio (c' := .lst (ds ++ [d2])) ⟨_, upd_same, g2.append (.cons r2 .nil)⟩
    exact ⟨a, vs, y, rfl, rfl, g1, by rw [g2.length]; exact Nat.lt_of_lt_of_le hl lim_line, k _ (W2.wr a _) R3 ((f1.trans f2).trans f3) .non⟩
  · cases h
theorem mg_subE {ie : Expr} (ho : ME X o fo) (hi : ME X ie fi)
    (ha : ∀ v, assign (.Subscript o ie pos) X.env v = (do
      let ov ← holding [v] (eval o X.env)
      let iv ← holding [v, ov] (eval ie X.env)
      standAt pos
      holding [v, ov, iv] (setItem ov iv v)
      release [v, ov, iv] []) := by intro _; rfl) : MG X (.Subscript o ie pos) (gSubE fo fi) := by
  obtain ⟨t, p, q⟩ := ho
  obtain ⟨t2, p2, q2⟩ := hi
  refine ⟨_, pg_sub p p2 set_list ha, fun d S S' h W s v Q R r k => ?_⟩
  obtain ⟨⟨d1, S1⟩, e1, h⟩ := bind_some h
  obtain ⟨⟨d2, S2⟩, e2, h⟩ := bind_some h
  obtain ⟨⟨k1, ds⟩, e3, h⟩ := bind_some h
  simp only at h
  split at h
  · rename_i i0 _
    obtain ⟨j, e4, h⟩ := bind_some h
    cases h
    refine q S _ _ e1 W s _ R fun y W1 R1 f1 r1 => ?_
    refine q2 S1 _ _ e2 W1 s _ R1 fun z W2 R2 f2 r2 => ?_
    cases r2.int_inv
    obtain ⟨_, a, vs, rfl, hio, g1, g2⟩ := lAt_ok R2 (r1.up f2) e3
    obtain ⟨R3, f3⟩ := R2.wrCell (o := .lst (vs.set j v)) hio (c' := .lst (ds.set j d)) ⟨_, upd_same, g2.set j ((r.up f1).up f2)⟩
    exact ⟨a, vs, i0, j, rfl, rfl, g1, by rw [g2.length]; exact e4, k (W2.wr a _) _ R3 ((f1.trans f2).trans f3)⟩
  · cases h
theorem me_cel (h : MF X e fc) : ME X e (eCel fc) := by
  obtain ⟨t, p, q⟩ := h
  refine ⟨t, p, fun S d S' h W s Q R k => ?_⟩
  obtain ⟨⟨c, S1⟩, e1, h⟩ := bind_some h
  cases h
  refine q S _ _ e1 W s _ R fun a W1 R1 f1 hp n => ?_
  obtain ⟨R2, f2, r2⟩ := R1.addCell f1 hp n
  exact k _ (W1.cl a) R2 f2 r2
theorem mf_rev (he : ME X e fe) : MF X (.Subscript e (.Slice none none (some (.UnaryOp .USub (.Constant (.int 1) k p1) p2)) p3) pos) (cRev fe) := by
  obtain ⟨t, p, q⟩ := he
  refine ⟨_, pe_revL p, fun S c S' h W s Q R k => ?_⟩
  obtain ⟨⟨d1, S1⟩, e1, h⟩ := bind_some h
  obtain ⟨ds, e2, h⟩ := bind_some h
  refine q S _ _ e1 W s _ R fun v W1 R1 f1 r1 => ?_
  simp only at e2 h
  have fin : ∀ a vs, SqL X.K W1.H a vs → RVs X.K W1.F W1.io vs ds → some (Cell.lst ds.reverse, S1) = some (c, S') → ∃ a' xs, V.ref a = .ref a' ∧ SqL X.K W1.H a' xs ∧ ∀ p, W1.H p = none → Q (.ref p) (upd W1.H p (.lst xs.reverse)) := fun a vs h1 h2 h => by
    cases h
    refine ⟨a, vs, rfl, h1, fun p hp => ?_⟩
    obtain ⟨R2, f2, n⟩ := R1.newLst hp h2.reverse
    exact k _ _ R2 (f1.trans f2) (f1.hp _ hp) n
  unfold seqD at e2
  split at e2
  · cases e2
    obtain ⟨a, vs, rfl, h1, h2⟩ := r1.lst_inv
    exact fin a vs (.of (R1.sub _ _ h1)) h2 h
  · cases h
  · cases e2
    obtain ⟨a, vs, rfl, h1, h2⟩ := r1.sc_inv
    exact fin a vs (sqL_mono R1.sub h1) h2 h
  · cases e2
theorem u1 {k : Nat} {A : Around} (r : Room k A) : A.units + 1 < cLine := by have := u65 r; omega
end
section
variable {S : Ms} {fe fo fi fd : EF} {fk : KF} {fa : AF} {fc : CF} {d : D} {b : Bool}
@[simp] theorem kTup_ap : kTup fa S = (fa S).bind fun p => (keysD p.1).bind fun ks => if p.1.length ≤ LIM then some (ks, p.2) else none := rfl
@[simp] theorem eDGetT_ap : eDGetT fd fk S = (fd S).bind fun p => (fk p.2).bind fun q => (dTAt q.2 p.1).bind fun r => (vT r.2 q.1).bind fun d => some (d, q.2) := rfl
@[simp] theorem bDInT_ap : bDInT b fk fd S = (fk S).bind fun q => (fd q.2).bind fun p => (dTAt p.2 p.1).bind fun r => some (xor b (vT r.2 q.1).isSome, p.2) := rfl
@[simp] theorem sDPutT_ap : sDPutT fd fk fe S = (fe S).bind fun v => (fd v.2).bind fun p => (fk p.2).bind fun q => (dTAt q.2 p.1).bind fun r => if r.2.length < LIM then some (.nx, ⟨q.2.r, q.2.m.set r.1 (.dT (pT r.2 q.1 v.1))⟩) else none := rfl
@[simp] theorem cDT_ap : cDT S = some (.dT [], S) := rfl
@[simp] theorem eAppE_ap : eAppE fo fe S = (fo S).bind fun p => (lAt p.2 p.1).bind fun _ => (fe p.2).bind fun q => (lAt q.2 p.1).bind fun r => if r.2.length < LIM then some (.non, ⟨q.2.r, q.2.m.set r.1 (.lst (r.2 ++ [q.1]))⟩) else none := rfl
@[simp] theorem gSubE_ap : gSubE fo fi d S = (fo S).bind fun p => (fi p.2).bind fun q => (lAt q.2 p.1).bind fun r => match q.1 with
  | .int i => (ixN r.2.length i).bind fun j => some ⟨q.2.r, q.2.m.set r.1 (.lst (r.2.set j d))⟩
  | _ => none := rfl
@[simp] theorem eCel_ap : eCel fc S = (fc S).bind fun p => some (.ref p.2.m.length, ⟨p.2.r, p.2.m ++ [p.1]⟩) := rfl
@[simp] theorem cRev_ap : cRev fe S = (fe S).bind fun p => (seqD p.1).bind fun ds => match p.1 with
  | .tup _ => none
  | _ => some (.lst ds.reverse, p.2) := rfl
@[simp] theorem keysD_nil : keysD [] = some [] := rfl
@[simp] theorem keysD_int {i : Int} {r : List D} : keysD (.int i :: r) = (keysD r).bind fun q => some (Sum.inl i :: q) := rfl
@[simp] theorem keysD_str {i : Str} {r : List D} : keysD (.str i :: r) = (keysD r).bind fun q => some (Sum.inr i :: q) := rfl
@[simp] theorem dTAt_ref {k : Nat} : dTAt S (.ref k) = match S.m[k]? with
    | some (.dT kds) => some (k, kds)
    | _ => none := rfl
@[simp] theorem lAt_ref {k : Nat} : lAt S (.ref k) = match S.m[k]? with
    | some (.lst kds) => some (k, kds)
    | _ => none := rfl
end
theorem vT_put (kds : List (List Key × D)) (k j : List Key) (d : D) : vT (pT kds k d) j = if k = j then some d else vT kds j := by
  have hm : ∀ kds : List (List Key × D), vT (kds.map fun kd => if kd.1 = k then (kd.1, d) else kd) j = (vT kds j).map fun x => if k = j then d else x := by
    intro kds
    induction kds with
    | nil => rfl
    | cons p r ih =>
      obtain ⟨q, x⟩ := p
      rw [List.map_cons]
      by_cases h : q = k
      · subst h
        simp only [if_true, vT]
        by_cases h2 : q = j
        · simp [h2]
        · simp only [if_neg h2, ih]
      · simp only [if_neg h, vT]
        by_cases h2 : q = j
        · subst h2
          have : ¬ k = q := fun z => h z.symm
          simp [this]
        · simp only [if_neg h2, ih]
  have ha : ∀ kds : List (List Key × D), vT kds k = none → vT (kds ++ [(k, d)]) j = if k = j then some d else vT kds j := by
    intro kds
    induction kds with
    | nil => intro _; rfl
    | cons p r ih =>
      obtain ⟨q, x⟩ := p
      intro hn
      unfold vT at hn
      by_cases h : q = k
      · rw [if_pos h] at hn; cases hn
      · rw [if_neg h] at hn
        show (if q = j then some x else vT (r ++ [(k, d)]) j) = if k = j then some d else (if q = j then some x else vT r j)
        rw [ih hn]
        by_cases h2 : q = j
        · subst h2
          have : ¬ k = q := fun z => h z.symm
          simp [this]
        · simp [h2]
  unfold pT
  cases e : vT kds k with
  | none => simp only [Option.isSome_none, Bool.false_eq_true, if_false]; exact ha kds e
  | some x =>
    simp only [Option.isSome_some, if_true]
    rw [hm]
    by_cases h : k = j
    · subst h; rw [e]; simp
    · simp only [if_neg h]
      cases vT kds j <;> rfl
theorem pT_len (kds : List (List Key × D)) (k : List Key) (d : D) : (pT kds k d).length ≤ kds.length + 1 := by
  unfold pT
  split
  · simp
  · simp
end M

/-! comprehensions over a list that is a cell (it must stay as it is) -/
namespace M
open PySem PySem.Spec L2
/-- the value that a statement assigns, the scope of a comprehension -/
def asgV (s : Stmt) : Expr := match s with
  | .Assign _ v _ => v
  | _ => .Constant .none 0 ⟨0, 0, 0, 0⟩
def lcS (e : Expr) : Scope := match e with
  | .ListComp _ _ s _ => s
  | _ => { kind := .function, names := [], isGenerator := false, isCoroutine := false }
abbrev CiF := Ms → Option ((Nat × List D) × Ms)
structure YlC (K : PySem.W.Frag) (J : It) (W : Wd) (k : Nat) (ds : List D) : Prop where
  go : ∀ W2 S s, Rel K W2 S s → W.io <+: W2.io → S.m[k]? = some (.lst ds) → ∀ i d, ds[i]? = some d → J.go i W2.H ∧ ∀ x H', J.yld i W2.H x H' → ∃ W3, W3.H = H' ∧ Rel K W3 S s ∧ Fr W2 S.r s W3 S.r s ∧ RV K W3.F W3.io x d
  stop : ∀ W2 S s, Rel K W2 S s → W.io <+: W2.io → S.m[k]? = some (.lst ds) → J.stop ds.length W2.H
def TIokC (K : PySem.W.Frag) (wi : TI) (f : CiF) : Prop := ∀ S k ds S', f S = some ((k, ds), S') → ∀ W s (Rr : It → Hp → Prop), Rel K W S s → (∀ J W', Rel K W' S' s → Fr W S.r s W' S'.r s → YlC K J W' k ds → Rr J W'.H) → wi s W.H Rr
def MIc (X : Cx) (tg it : Expr) (f : CiF) : Prop := ∃ wi, PI X tg it wi ∧ TIokC X.K wi f
def iCel (f : EF) : CiF := fun S => (f S).bind fun p => (lAt p.2 p.1).bind fun q => some (q, p.2)
theorem mi_cel {X : Cx} {tg e : Expr} {fe : EF} (he : ME X e fe) : MIc X tg e (iCel fe) := by
  obtain ⟨t, p, q⟩ := he
  refine ⟨_, pi_list p, fun S kk ds S' h W s Rr R k => ?_⟩
  obtain ⟨⟨d1, S1⟩, e1, h⟩ := bind_some h
  obtain ⟨⟨k2, ds2⟩, e2, h⟩ := bind_some h
  cases h
  refine q S _ _ e1 W s _ R fun v W1 R1 f1 r1 => ?_
  obtain ⟨hd, a, vs, rfl, hio, h1, h2⟩ := lAt_ok R1 r1 e2
  refine ⟨a, rfl, ⟨vs, .of h1⟩, k _ W1 R1 f1 ⟨fun W2 S2 s2 R2 hi hg i d ed => ?_, fun W2 S2 s2 R2 hi hg => ?_⟩⟩
  · obtain ⟨vs2, g1, g2⟩ := R2.cells _ _ a hg (pre_get hi hio)
    obtain ⟨v, ev, rv⟩ := g2.get ed
    refine ⟨⟨vs2, v, .of g1, ev⟩, fun x H' y => ⟨W2, y.1.symm, R2, .refl, ?_⟩⟩
    have := y.2 vs2 (.of g1)
    rw [ev] at this; cases this
    exact rv
  · obtain ⟨vs2, g1, g2⟩ := R2.cells _ _ a hg (pre_get hi hio)
    exact ⟨vs2, .of g1, by rw [g2.length]; exact Nat.le_refl _⟩
open Classical in
noncomputable def lcMC (k : Nat) (all : List D) (g : GF) (t : BF) (f : EF) (vs : List Nat) : List D → List D → Ms → Option (List D × Ms)
  | [], acc, S => if S.m[k]? = some (.lst all) then some (acc, S) else none
  | d :: ds, acc, S => if S.m[k]? = some (.lst all) then (g d { S with r := wipeR S.r vs }).bind fun S1 => (t S1).bind fun p => if p.1 then (f p.2).bind fun q => if acc.length < LIM then lcMC k all g t f vs ds (acc ++ [q.1]) { q.2 with r := restR S.r q.2.r vs } else none
    else lcMC k all g t f vs ds acc { p.2 with r := restR S.r p.2.r vs } else none
open Classical in
theorem lcMC_nil' {k : Nat} {all : List D} {g : GF} {t : BF} {f : EF} {vs : List Nat} {acc : List D} {S : Ms} : lcMC k all g t f vs [] acc S = if S.m[k]? = some (.lst all) then some (acc, S) else none := rfl
open Classical in
theorem lcMC_cons' {k : Nat} {all : List D} {g : GF} {t : BF} {f : EF} {vs : List Nat} {d : D} {ds acc : List D} {S : Ms} : lcMC k all g t f vs (d :: ds) acc S = if S.m[k]? = some (.lst all) then (g d { S with r := wipeR S.r vs }).bind fun S1 => (t S1).bind fun p => if p.1 then (f p.2).bind fun q => if acc.length < LIM then lcMC k all g t f vs ds (acc ++ [q.1]) { q.2 with r := restR S.r q.2.r vs } else none
    else lcMC k all g t f vs ds acc { p.2 with r := restR S.r p.2.r vs } else none := rfl
noncomputable def cLcC (fi : CiF) (g : GF) (t : BF) (f : EF) (vs : List Nat) : CF := fun S => (fi S).bind fun p => (lcMC p.1.1 p.1.2 g t f vs p.1.2 [] p.2).bind fun q => some (.lst q.1, q.2)
theorem tf_lcC {K : PySem.W.Frag} {wi : TI} {tg : TG} {tt : TT} {te : TE} {vs : List Nat} {fi : CiF} {g : GF} {ft : BF} {fe : EF} (qi : TIokC K wi fi) (qg : TGok K tg g) (qt : TTok K tt ft) (qe : TEok K te fe)
    (hw : KG vs tg) : TFok K (tLc wi tg tt te vs) (cLcC fi g ft fe vs) := by
  intro S c S' h W s Q R k
  obtain ⟨⟨⟨kk, ds⟩, S1⟩, e1, h⟩ := bind_some h
  obtain ⟨⟨acc, S2⟩, e2, h⟩ := bind_some h
  cases h
  refine qi S kk ds S1 e1 W s _ R fun J W1 R1 f1 Y => ?_
  intro A hA
  obtain ⟨R1', f1', n1⟩ := R1.newLst (ds := []) hA .nil
  have hA0 : W.H A = none := f1.hp A hA
  refine ⟨fun i m H2 => m = ds.length - i ∧ i ≤ ds.length ∧ ∃ W2 S3 acc2, W2.H = H2 ∧ Rel K W2 S3 s ∧ Fr W1 S1.r s W2 S3.r s ∧ New K W2 S3 s A (.lst acc2) ∧ lcMC kk ds g ft fe vs (ds.drop i) acc2 S3 = some (acc, S2), ⟨ds.length, rfl, Nat.zero_le _, _, S1, [], rfl, R1', f1', n1, e2⟩, ?_⟩
  rintro i m H2 ⟨rfl, hi, W2, S3, acc2, rfl, R2, f2, n2, e3⟩
  by_cases hlt : i < ds.length
  · have ed : ds[i]? = some ds[i] := List.getElem?_eq_getElem hlt
    rw [List.drop_eq_getElem_cons hlt, lcMC_cons'] at e3
    split at e3
    rotate_left
    · cases e3
    rename_i hg
    obtain ⟨go, yl⟩ := Y.go W2 S3 s R2 f2.ix hg i _ ed
    obtain ⟨S4, e4, e3⟩ := bind_some e3
    obtain ⟨⟨b, S5⟩, e5, e3⟩ := bind_some e3
    refine .inr ⟨go, fun H3 => i + 1 ≤ ds.length ∧ ∃ W3 S6 acc3, W3.H = H3 ∧ Rel K W3 S6 s ∧ Fr W1 S1.r s W3 S6.r s ∧ New K W3 S6 s A (.lst acc3) ∧ lcMC kk ds g ft fe vs (ds.drop (i + 1)) acc3 S6 = some (acc, S2), ?_, fun x H' y => ?_⟩
    · rintro H3 ⟨hl, W3, S6, acc3, rfl, z⟩
      exact ⟨_, by omega, rfl, hl, W3, S6, acc3, rfl, z⟩
    · obtain ⟨W3, rfl, R3, f3, r3⟩ := yl x H' y
      have n3 := n2.keep (S1 := S3) f3
      obtain ⟨Rw, fw⟩ := R3.wipe vs
      refine hw.mono _ _ _ _ _ (fun s2 H2 z => z) (hw.mono _ _ _ (fun s2 H2 => L2.wipe s2 vs = L2.wipe (L2.wipe s vs) vs ∧ (L2.wipe s2 vs = L2.wipe s vs → tt s2 H2 fun b H3 => if b = true then te s2 H3 fun y H4 => ∃ acc, H4 A = some (.lst acc) ∧ acc.length < sizeLine ∧ (i + 1 ≤ ds.length ∧ ∃ W3 S6 acc3, W3.H = upd H4 A (.lst (acc ++ [y])) ∧ Rel K W3 S6 s ∧ Fr W1 S1.r s W3 S6.r s ∧ New K W3 S6 s A (.lst acc3) ∧ lcMC kk ds g ft fe vs (ds.drop (i + 1)) acc3 S6 = some _) else (i + 1 ≤ ds.length ∧ ∃ W3 S6 acc3, W3.H = H3 ∧ Rel K W3 S6 s ∧ Fr W1 S1.r s W3 S6.r s ∧ New K W3 S6 s A (.lst acc3) ∧ lcMC kk ds g ft fe vs (ds.drop (i + 1)) acc3 S6 = some _))) _ (fun s2 H2 z => ⟨z.1.trans wipe_wipe, z.2 (z.1.trans wipe_wipe)⟩) (hw.keep _ _ _ _ ?_))
      refine qg _ _ S4 e4 W3 _ x _ Rw r3 fun W4 s4 R4 f4 hs4 => ?_
      refine qt S4 b S5 e5 W4 s4 _ R4 fun W5 R5 f5 => ?_
      have f45 := f4.trans f5
      cases b with
      | false =>
        rw [if_neg Bool.false_ne_true]
        obtain ⟨R6, f6⟩ := R3.rest R5 f45 hs4
        exact ⟨hlt, W5, _, acc2, rfl, R6, (f2.trans f3).trans f6, n3.keep (S1 := { S5 with r := restR S3.r S5.r vs }) f6, e3⟩
      | true =>
        rw [if_pos rfl]
        rw [if_pos rfl] at e3
        obtain ⟨⟨d, S6⟩, e6, e3⟩ := bind_some e3
        simp only at e3
        split at e3
        · rename_i hlim
          refine qe S5 d S6 e6 W5 s4 _ R5 fun y W6 R6 f6 r6 => ?_
          obtain ⟨R7, f7⟩ := R3.rest R6 (f45.trans f6) hs4
          have n7 := n3.keep (S1 := { S6 with r := restR S3.r S6.r vs }) f7
          obtain ⟨vs7, h7, r7⟩ := n7.cr
          refine ⟨vs7, h7, by rw [r7.length]; exact Nat.lt_of_lt_of_le hlim lim_line, hlt, ?_⟩
          obtain ⟨R8, n8⟩ := R7.wrApart (c' := .lst (acc2 ++ [d])) (o := .lst (vs7 ++ [y])) n7 ⟨_, upd_same, r7.append (.cons r6 .nil)⟩
          refine ⟨_, _, acc2 ++ [d], rfl, R8, ?_, n8, e3⟩
          have ff := (f2.trans f3).trans f7
          refine ⟨ff.fx, ff.ix, fun b o h n => ?_, fun b h => ff.hp b (upd_none h)⟩
          obtain ⟨g1, g2⟩ := ff.ot b o h n
          have nb : b ≠ A := fun z => by rw [z, hA] at h; cases h
          exact ⟨by show upd _ A _ b = _; rw [upd_ne nb]; exact g1, g2⟩
        · cases e3
  · have ei : i = ds.length := by omega
    subst ei
    rw [List.drop_length, lcMC_nil'] at e3
    split at e3
    rotate_left
    · cases e3
    rename_i hg
    cases e3
    exact .inl ⟨Y.stop W2 _ s R2 f2.ix hg, k A W2 R2 (f1.trans f2) hA0 n2⟩


section
variable {X : Cx} {pos spos : Pos} {elt tg iter : Expr} {ifs : List Expr} {scope : Scope} {vs : List Nat} {own : List (Str × Nat)} {fi : CiF} {g : GF} {ft : BF} {fe : EF} {t1 : TG} {t2 : TT} {t3 : TE}
theorem mf_lcC (hc : X.calm = true) (hN : X.N.Nodup) (hi : MIc X tg iter fi) (ok : BlkOk X.N X.env.scope scope own)
    (hg : Blk X scope fun Y => MGk Y vs tg g) (ht : Blk X scope fun Y => MTs Y ifs ft) (he : Blk X scope fun Y => ME Y elt fe)
    (hvs : own.map (·.2) = vs := by rfl) (hs : ∀ x, foldedSetIterable iter X.env x = pure x := by intro _; rfl) : MF X (.ListComp elt [⟨tg, iter, ifs, 0⟩] scope pos) (cLcC fi g ft fe vs) := by
  subst hvs
  obtain ⟨wi, pi, qi⟩ := hi
  exact ⟨_, pe_lc hc hN pi ok (fun s H C cl fp => (hg s H C cl fp).pg) (fun s H C cl fp => (ht s H C cl fp).pt) (fun s H C cl fp => (he s H C cl fp).pe) hs, tf_lcC qi tgOf_ok ttOf_ok tOf_ok tgOf_k⟩
end
@[simp] theorem cLcC_ap {fi : CiF} {g : GF} {t : BF} {f : EF} {vs : List Nat} {S : Ms} : cLcC fi g t f vs S = (fi S).bind fun p => (lcMC p.1.1 p.1.2 g t f vs p.1.2 [] p.2).bind fun q => some (.lst q.1, q.2) := rfl
@[simp] theorem iCel_ap {f : EF} {S : Ms} : iCel f S = (f S).bind fun p => (lAt p.2 p.1).bind fun q => some (q, p.2) := rfl
theorem lcMC_map {α : Type} {kk : Nat} {all : List D} {g : GF} {t : BF} {f : EF} {vs : List Nat} {S : Ms} (hS : S.m[kk]? = some (.lst all)) (enc : α → D) (F : α → D) : ∀ (xs : List α) (acc : List D), (∀ x ∈ xs, stepC g t f vs S (enc x) = some (some (F x), S)) → acc.length + xs.length ≤ 1000000 →
    lcMC kk all g t f vs (xs.map enc) acc S = some (acc ++ xs.map F, S) := by
  intro xs
  induction xs with
  | nil => intro acc _ _; rw [List.map_nil, lcMC_nil', if_pos hS]; simp
  | cons x xs ih =>
    intro acc h hl
    have h1 := h x (by simp)
    have h2 : ∀ y ∈ xs, stepC g t f vs S (enc y) = some (some (F y), S) := fun y hy => h y (by simp [hy])
    simp only [List.length_cons] at hl
    rw [List.map_cons, lcMC_cons', if_pos hS]
    unfold stepC at h1
    obtain ⟨S1, e1, h1⟩ := bind_some h1
    obtain ⟨⟨b, S2⟩, e2, h1⟩ := bind_some h1
    rw [e1]
    simp only [Option.bind_some, e2]
    cases b with
    | true =>
      simp only [if_true] at h1 ⊢
      obtain ⟨⟨z, S3⟩, e3, h1⟩ := bind_some h1
      simp only [Option.some.injEq, Prod.mk.injEq] at h1
      obtain ⟨hF, hS'⟩ := h1
      rw [e3]
      simp only [Option.bind_some]
      rw [if_pos (show acc.length < LIM by unfold LIM; omega)]
      rw [hS', ih _ h2 (by simp only [List.length_append, List.length_cons, List.length_nil]; omega), hF]
      simp
    | false =>
      simp only [Bool.false_eq_true, if_false, Option.some.injEq, Prod.mk.injEq] at h1
      exact absurd h1.1 (by simp)
end M

/-! M12: repr of plain data; defs that run where no repr is under way (FnG) -/
namespace M
open PySem PySem.Spec L2
/-! how long a text may be -/
theorem int_len16 {i : Int} (h : i.natAbs < 1000000000000000) : (Str.ofString (toString i)).length ≤ 16 := by
  have e : ∀ n : Nat, n < 1000000000000000 → (TL.numL n).length ≤ 15 := fun n hn => TL.numL_len (by omega) hn
  have tl : ∀ z : Str, z.length = (TL.tl z).length := fun z => rfl
  rw [tl]
  cases i with
  | ofNat n =>
    have := e n (by simpa using h)
    rw [show Int.ofNat n = ((n : Nat) : Int) from rfl, TL.tl_num]
    omega
  | negSucc n =>
    have h1 := e (n + 1) (by simpa using h)
    have h2 := TL.tl_num (n + 1)
    rw [TL.tl_ofString] at h2 ⊢
    have h3 : ((toString (Int.negSucc n)).toList).map Char.toNat = 45 :: TL.numL (n + 1) := by
      show (("-" ++ toString (n + 1)).toList).map Char.toNat = 45 :: TL.numL (n + 1)
      rw [String.toList_append, List.map_append]
      show [45] ++ ((toString (n + 1)).toList).map Char.toNat = _
      exact congrArg (List.cons 45) h2
    rw [h3]
    simp only [List.length_cons]
    omega
mutual
def szP : PyData → Nat
  | .int i => if i.natAbs < 1000000000000000 then 16 else 1921
  | .none | .bool _ => 5
  | .str x => (reprText x).length
  | .list xs | .tuple xs => szPs xs + 2
  | .dict _ => 0
def szPs : List PyData → Nat
  | [] => 0
  | x :: xs => szP x + 2 + szPs xs
end
theorem listText_le (ts : List Str) : (listText ts).length ≤ piled ts + 2 := by
  cases ts with
  | nil => decide +kernel
  | cons t r =>
    have h := textFrom_length_pos r 1 (("[" : Str) ++ (if (0 : Nat) > 0 then ", " else "" : String) ++ t) (by decide)
    have e : ((("[" : Str) ++ (if (0 : Nat) > 0 then ", " else "" : String) ++ t)).length = 1 + t.length := by
      rw [strLen_append, strLen_append]; rfl
    have x : (listText (t :: r)).length = (textFrom 1 (("[" : Str) ++ (if (0 : Nat) > 0 then ", " else "" : String) ++ t) r).length + 1 := by
      unfold listText
      rw [strLen_append]; rfl
    rw [x, h, e, piled_cons]; omega
mutual
theorem shown_le : ∀ p : PyData, p.showable = true → p.hasDict = false → p.shown.length ≤ szP p
  | .int i, h, _ => by
    simp only [PyData.showable, decide_eq_true_eq] at h
    simp only [PyData.shown, szP]
    split
    · rename_i c; exact int_len16 c
    · exact PyProof.Rows.int_text_len_1921 h
  | .none, _, _ => by decide +kernel
  | .bool b, _, _ => by cases b <;> decide +kernel
  | .str x, _, _ => by simp only [PyData.shown, szP]; exact Nat.le_refl _
  | .list xs, h, n => by
    simp only [PyData.showable] at h
    simp only [PyData.hasDict] at n
    simp only [PyData.shown, szP]
    have := shown_les xs h n
    have := listText_le (PyData.shownAll xs)
    omega
  | .tuple xs, h, n => by
    simp only [PyData.showable] at h
    simp only [PyData.hasDict] at n
    simp only [PyData.shown, szP]
    have := shown_les xs h n
    have := fmt_text (PyData.shownAll xs)
    omega
  | .dict _, _, n => by simp [PyData.hasDict] at n
theorem shown_les : ∀ ps : List PyData, PyData.showableAll ps = true → PyData.hasDictAll ps = false → piled (PyData.shownAll ps) ≤ szPs ps
  | [], _, _ => by simp [PyData.shownAll, piled, szPs]
  | p :: ps, h, n => by
    simp only [PyData.showableAll, Bool.and_eq_true] at h
    simp only [PyData.hasDictAll, Bool.or_eq_false_iff] at n
    simp only [PyData.shownAll, szPs, piled_cons]
    have := shown_le p h.1 n.1
    have := shown_les ps h.2 n.2
    omega
end
/-! repr -/
def isSeqP : PyData → Bool
  | .list _ | .tuple _ => true
  | _ => false
def reprOk (p : PyData) : Prop := p.showable = true ∧ p.hasDict = false ∧ p.depth ≤ 60 ∧ szP p ≤ LIM ∧ isSeqP p = true
instance (p : PyData) : Decidable (reprOk p) := inferInstanceAs (Decidable (_ ∧ _))
def gRepr (d : D) : Option D := (toPy d).bind fun p => if reprOk p then some (.str p.shown) else none
section
variable {X : Cx}
theorem call_reprD (hg : X.A.guards = some []) (hu : X.A.units + 64 < cLine) : CallR X (.builtin "repr") (fun xs H Q => ∃ v p, xs = [v] ∧ Dp X.K H v p ∧ reprOk p ∧ Q (.str p.shown) H) := by
  rintro pins s σ H xs us Q I r ⟨v, p, rfl, hd, ⟨h1, h2, h3, h4, h5⟩, q⟩
  obtain ⟨u, rfl, rv⟩ := vals1 r
  obtain ⟨as, rd⟩ := Dp.reads I p v u hd rv
  have hz : p.shown.length ≤ sizeLine := Nat.le_trans (shown_le p h1 h2) (Nat.le_trans h4 lim_line)
  have isr : ∃ a, v = .ref a := by
    cases hd with
    | lst _ _ => exact ⟨_, rfl⟩
    | tup _ _ => exact ⟨_, rfl⟩
    | non => cases h5
    | bl _ => cases h5
    | int _ => cases h5
    | str _ => cases h5
  obtain ⟨a, rfl⟩ := isr
  obtain rfl : u = Value.ref a := rv
  exact repr_of_reads' rd h1 (PyData.noDict_hsm h2) hg (by omega) (fun _ _ z => z) (fun h' t tk hk => ⟨V.str p.shown, H, I.kept hk, ⟨t, rfl⟩, q⟩) hz
theorem cRepr (hg : X.A.guards = some []) (hu : X.A.units + 64 < cLine) : CallM X (.builtin "repr") gRepr := by
  refine ⟨_, call_reprD hg hu, fun x d z hz W S s Q R rx k => ?_⟩
  obtain ⟨p, hp, hz⟩ := bind_some hz
  split at hz
  · rename_i c
    cases hz
    exact ⟨x, p, rfl, rh_dp R rx hp, c, k _ W R .refl (.str _)⟩
  · cases hz
/-- == of two texts -/
def gEqS : D → D → Option D
  | .str a, .str b => some (.bl (decide (a = b)))
  | _, _ => none
theorem oEqS : OpM X (compareOp .Eq) gEqS := by
  refine ⟨_, op_eq, fun x y d e z hz W S s Q R rx ry k => ?_⟩
  unfold gEqS at hz
  split at hz
  · rename_i a b
    cases hz
    cases rhS rx
    cases rhS ry
    refine ⟨rfl, ?_⟩
    have : decide (V.str a = V.str b) = decide (a = b) := by rw [Bool.eq_iff_iff]; simp
    rw [this]
    exact k _ W R .refl (.bl _)
  · cases hz
end

open PyProof.Rows
/-! ### defs that run where no repr is under way -/
structure FnG (P : Program) (w : World) (K : PySem.W.Frag) (mg : Str → Option Value) (base : Heap) (k : Nat) (f : Addr) (fd : FuncData) (ps : List Str) (sp : Sp) : Prop where
  ln : ∀ vs H Q E, sp vs H Q E → vs.length = ps.length
  go : ∀ (A : Around) (out : List Env) (s : Shared) (H : Hp) (ar : Args) (us : List Value) (vs : List V) (Q : VK) (E : XK), Room k A → A.guards = some [] → Env0 P w K mg base A out s H →
    BindsTo s fd ar (ps.zip us) → Vals vs us → sp vs H Q E → codeAny (model P w) A (.call (.ref f) ar) (L2.CR CX0 out P w H s Q E) s
def GdOk (A : Around) : Prop := A.guards = some []
section
variable {P : Program} {w : World} {K : PySem.W.Frag} {mg : Str → Option Value} {base : Heap} {x qual : Str} {st : Stmt} {f : Addr} {fd : FuncData} {N ps : List Str} {k : Nat} {b : SF} {sp : Sp}
theorem FnG.imp (F : FnG P w K mg base k f fd ps sp) {sp' : Sp} (h : ∀ vs H Q E, sp' vs H Q E → sp vs H Q E) : FnG P w K mg base k f fd ps sp' :=
  ⟨fun _ _ _ _ q => F.ln _ _ _ _ (h _ _ _ _ q), fun A out s H ar us vs Q E r g e bd v q => F.go A out s H ar us vs Q E r g e bd v (h _ _ _ _ q)⟩
theorem fng_of (F : Fun K x qual st f fd) (S : FnScope N ps (defScope st)) (hl : ∀ vs H Q E, sp vs H Q E → vs.length = ps.length)
    (hb : ∀ (cdv : Value) (A : Around) (out : List Env) (s : Shared) (H : Hp) (vs : List V) (Q : VK) (E : XK), Room k (A.deeper (PyProof.Rows.envOfC qual (defScope st) s.heap.objs.size f cdv)) → A.guards = some [] → sp vs H Q E →
      ∃ t, PSs (cxOf CX0 P w K mg base N qual (defScope st) f cdv A out s H E) (defBody st) t ∧ t { nx := fun _ H1 => Q .non H1, rt := Q } (L2.start N vs) H) : FnG P w K mg base (k + 1) f fd ps sp := by
  obtain ⟨oc, od, kV, doc, pm, an, cdv, ct, osl, rfl, lk, hc⟩ := F.ex
  refine ⟨hl, fun A out s H ar us vs Q E room gd e0 bd rv hs => ?_⟩
  have kp : ∀ a o, base.get? a = some o → s.heap.get? a = some o := fun a o z => (e0.bs a o z).1
  have hK := e0.mod.kin.keeps kp
  refine codeAny_call_function room.depth (hK _ _ lk) rfl S.co S.gen rfl (PySem.W.codeRec_of hK hc) (bd _ _ _ _ ?_)
  refine wpAny_newFunctionEnv_cells S.kind (fun y hy => ?_) fun env eq s1 ic => ?_
  · rcases S.par y.1 (List.of_mem_zip hy).1 with z | z
    · exact Or.inl z
    · exact Or.inr ⟨z, PySem.W.cellsFrom_some _ _ _ (Or.inl z)⟩
  · subst eq
    refine ⟨(e0.mod.nolimit.keeps kp).keeps ic.toInCall.keep, codeAny_func ?_⟩
    obtain ⟨t, p, q⟩ := hb cdv A out s H vs Q E (room.deeper _) gd hs
    refine wpAny_mono (p.run [] s1 _ H _ (inv_start S room.hd e0 (hl _ _ _ _ hs) rv ic) q) (fun r s' z => ?_) fun _ _ z => z
    cases r with
    | ret u => obtain ⟨v, σ1, H1, J, r1, q1⟩ := z; exact ⟨v, H1, J.os, J.bare, J.base, J.hok, r1, q1⟩
    | next => obtain ⟨σ1, H1, J, q1⟩ := z; exact ⟨.non, H1, J.os, J.bare, J.base, J.hok, rfl, q1⟩
    | brk => obtain ⟨_, _, _, z⟩ := z; exact z.elim
    | cont => obtain ⟨_, _, _, z⟩ := z; exact z.elim
theorem fng_ok (F : Fun K x qual st f fd) (S : FnScope N ps (defScope st))
    (hb : ∀ (cdv : Value) (A : Around) (out : List Env) (s : Shared) (H : Hp) (E : XK), Room k (A.deeper (PyProof.Rows.envOfC qual (defScope st) s.heap.objs.size f cdv)) → A.guards = some [] →
      MSs (cxOf CX0 P w K mg base N qual (defScope st) f cdv A out s H E).nox (defBody st) b) : FnG P w K mg base (k + 1) f fd ps (spM K ps.length (fnM N.length b)) := by
  refine fng_of F S (fun vs H Q E h => h.1) (fun cdv A outer s H vs Q E hr hg h => ?_)
  obtain ⟨hl, W, ds, m, d, m', rfl, R, r, e, kk⟩ := h
  obtain ⟨t, p, q⟩ := hb cdv A outer s W.H E hr hg
  refine ⟨t, p.nox, ?_⟩
  unfold fnM at e
  obtain ⟨⟨fl, S'⟩, e1, e⟩ := bind_some e
  have own : ∀ b, ¬ Own (ds.map Slot.val ++ List.replicate (N.length - ds.length) Slot.emp) (L2.start N vs) b := fun b ⟨i, c, h, _⟩ => by
    have := List.mem_of_getElem? h
    simp at this
  refine q _ fl S' e1 W (L2.start N vs) _ (start_rel (n := 0) R r) fun W' s' R' f' => ?_
  have f0 := end_fr (S0 := ⟨ds.map Slot.val ++ List.replicate (N.length - ds.length) Slot.emp, m⟩) own f'
  cases fl with
  | nx => cases e; exact kk .non W' R'.bare f0 .non
  | rt d => cases e; exact fun v rv => kk v W' R'.bare f0 rv
  | bk => cases e
  | ct => cases e
end
/-- a def by its name, where no repr is under way -/
structure Fng (P : Program) (w : World) (K : PySem.W.Frag) (mg : Str → Option Value) (base : Heap) (k : Nat) (x : Str) (ps : List Str) (ff : FF) : Prop where
  ex : ∃ (f : Addr) (fd : FuncData), FnG P w K mg base k f fd ps (spM K ps.length ff) ∧ mg x = some (.ref f) ∧ PySem.W.keepIn K (.ref f) = true ∧ Binds K fd ps []
section
variable {X : Cx} {k n : Nat} {f : Addr} {fd : FuncData} {ps : List Str} {ff : FF} {sp : Sp} {x : Str} {p pos : Pos} {e : Expr} {es : List Expr} {fa : AF} {t : TA}
theorem run_fg {pins : List (Addr × Obj)} {σ : L2.St} {H : Hp} {s : Shared} {Q : VK} {us : List Value} {vs : List V} (F : FnG X.prog X.w X.K X.mg X.base k f fd ps sp) (hr : Room k X.A) (hg : X.A.guards = some []) (hb : Binds X.K fd ps [])
    (I : Inv X pins σ H s) (r : Vals vs us) (h : sp vs H Q E0) : wpAny (model X.prog X.w) X.A (call (.ref f) us) (EP X pins σ Q) X.xe s := by
  have hl : us.length = ps.length := r.length.symm.trans (F.ln _ _ _ _ h)
  have bd : BindsTo s fd ⟨us, []⟩ (ps.zip us) := by
    have z := hb s us I.kIn (by rw [List.append_nil]; exact hl)
    rwa [List.append_nil] at z
  refine wpAny_call (codeAny_mono (F.go X.A X.stack s H _ us vs Q E0 hr hg I.env0 bd r h) fun res s1 hq => ?_)
  cases res with
  | error e => exact hq.elim
  | ok fl => cases fl with
    | ret u => exact I.after hq
    | next => exact hq.elim
    | brk => exact hq.elim
    | cont => exact hq.elim
theorem me_g (G : Fng X.prog X.w X.K X.mg X.base k x ps ff) (hr : Room k X.A) (hgd : X.A.guards = some []) (ha : MA X (e :: es) fa) (hn : ps.length = n := by rfl)
    (hg : Gl X x := by rfl) (hdb : (x == ("__debug__" : Str)) = false := by decide) (he : starEach (e :: es) X.env = (false, eval e X.env) :: starEach es X.env := by rfl) (hpl : (backTo pos (starEach es X.env)).any (·.1) = false := by rfl) :
    ME X (.Call (.Name x p) (e :: es) [] pos) (eFn n ff fa) := by
  obtain ⟨f, fd, G, hm, hk, hb⟩ := G.ex
  rw [hn] at G
  obtain ⟨t, pa, qa⟩ := ha
  refine ⟨tCall (spM X.K n ff) [] E0 t, ⟨fun pins s σ H Q I h => ?_⟩, te_fn qa⟩
  refine wpAny_Call_Name_kw (ld_glob I hg hm (PySem.W.callWith_K (h₀ := X.base) I.ok.mod.kin hk (thn (pa.run pos pins s σ H _ I h) fun us s1 z => ?_) he hpl) hdb)
  obtain ⟨vs, H1, I1, r, q⟩ := z
  rw [List.append_nil] at q
  exact ⟨I1.kIn, run_fg G hr hgd hb I1 r q⟩
theorem me_g0 (G : Fng X.prog X.w X.K X.mg X.base k x [] ff) (hr : Room k X.A) (hgd : X.A.guards = some []) (hg : Gl X x := by rfl) (hdb : (x == ("__debug__" : Str)) = false := by decide) : ME X (.Call (.Name x p) [] [] pos) (eFn 0 ff aNil) := by
  obtain ⟨f, fd, G, hm, hk, hb⟩ := G.ex
  refine ⟨tCall (spM X.K 0 ff) [] E0 tNil, ⟨fun pins s σ H Q I h => ?_⟩, te_fn (fun S d S' h W s Q R k => by cases h; exact k _ W R .refl .nil)⟩
  exact wpAny_Call_Name_kw (ld_glob I hg hm (PySem.W.callWith_K0 I.kIn hk (run_fg (us := []) G hr hgd hb I .nil h)) hdb)
end
section
variable {P : Program} {w : World} {K : PySem.W.Frag} {mg : Str → Option Value} {base : Heap}
theorem fng {x qual : Str} {st : Stmt} {f : Addr} {fd : FuncData} {N ps : List Str} {k : Nat} {b : SF} (F : Fun K x qual st f fd) (hm : mg x = some (.ref f)) (S : FnScope N ps (defScope st))
    (hbi : ∀ (kV doc pm : Value) (an : Option Addr) (cdv ct : Value) (us : List Value), us.length = ps.length → bindArgs (PySem.W.fnOf x qual (defArgs st) (defBody st) (defScope st) .none kV doc pm an cdv ct) ⟨us, []⟩ = pure (ps.zip us))
    (hb : ∀ (cdv : Value) (A : Around) (out : List Env) (s : Shared) (H : Hp) (E : XK), Room k (A.deeper (PyProof.Rows.envOfC qual (defScope st) s.heap.objs.size f cdv)) → A.guards = some [] →
      MSs (cxOf CX0 P w K mg base N qual (defScope st) f cdv A out s H E).nox (defBody st) b) : Fng P w K mg base (k + 1) x ps (fnM N.length b) :=
  ⟨f, fd, fng_ok F S hb, hm, F.kp, F.binds hbi⟩
end
/-! ### the head, for such a law -/
/-- an abstract heap that knows the script, or nothing -/
theorem script_heap {P : Program} {w : World} {K : PySem.W.Frag} {s : Shared} {a : Addr} {vs : List Value} {ns : List Int} (KX : K.In s.heap) (ha : s.heap.get? a = some { cls := .type "list", data := .seq vs.toArray }) (hi : IntsAre vs ns) (hl : ns.length ≤ sizeLine) :
    ∃ H : Hp, Only H ∧ SqL K H a (ns.map V.int) ∧ HOk P w H s.heap ∧ ∀ b, H b ≠ none → b = a ∧ K.lookup a = none := by
  have rv := vals_ints hi
  have ln := hi.length
  cases hk : K.lookup a with
  | some o =>
    have e := KX a o hk
    rw [ha] at e
    cases e
    exact ⟨fun _ => none, fun _ => Or.inl rfl, Or.inr ⟨_, vs.toArray, _, hk, rfl, rfl, rfl, by rw [List.size_toArray, ln]; exact hl, by simpa using rv⟩, fun b u z => (by cases (show (none : Option HO) = some u from z)), fun b z => absurd rfl z⟩
  | none =>
    let o : Obj := { cls := .type "list", data := .seq vs.toArray }
    have at_a : (fun b => if b = a then some (HO.frz o (.lst (ns.map V.int))) else none) a = some (HO.frz o (.lst (ns.map V.int))) := if_pos rfl
    refine ⟨fun b => if b = a then some (.frz o (.lst (ns.map V.int))) else none, fun b => ?_, Or.inl (Or.inr ⟨o, at_a⟩), fun b u z => ?_, fun b z => ?_⟩
    · by_cases h : b = a
      · right; exact ⟨_, _, if_pos h⟩
      · left; exact if_neg h
    · by_cases h : b = a
      · subst h
        cases at_a.symm.trans z
        exact ⟨ha, by rw [List.length_map]; exact hl, vs, _, rv, ha⟩
      · cases (if_neg h).symm.trans z
    · by_cases h : b = a
      · exact ⟨h, rfl⟩
      · exact absurd (if_neg h) z
theorem law_callG {P : Program} {w : World} {K : PySem.W.Frag} {mg mb : Str → Option Value} {k : Nat} {fa a : Addr} {fd : FuncData} {x : Str} {sp : Sp} {s : Shared} {vs : List Value} {ns : List Int}
    (KX : K.In s.heap) (hm : s.heap.Ns mainGlobals mg) (hb : s.heap.Ns builtinsNs mb) (hbb : ∀ y : Str, y ≠ "__name__" → mb y = bootBuiltins y) (hn : s.heap.NoLimit) (hg : s.gens = #[])
    (ha : s.heap.get? a = some { cls := .type "list", data := .seq vs.toArray }) (hi : IntsAre vs ns) (hl : ns.length ≤ sizeLine) (hr : Room k callerA)
    (F : ∀ B : Heap, K.In B → B.Ns mainGlobals mg → FnG P w K mg B k fa fd [x] sp) (hx : ∀ (s : Shared) (u : Value), BindsTo s fd ⟨[u], []⟩ [(x, u)])
    (hs : ∀ H : Hp, Only H → SqL K H a (ns.map V.int) → sp [.ref a] H (fun v _ => v = .bl true) fun _ _ _ => False) :
    codeAny (model P w) callerA (.call (.ref fa) ⟨[.ref a], []⟩) (fun r s' => r = .ok (.ret (.bool true)) ∧ OldK s.heap s'.heap ∧ s'.os = s.os ∧ AllBare s'.gens) s := by
  obtain ⟨H, hO, hS, ok, hA⟩ := script_heap (P := P) (w := w) KX ha hi hl
  have free : ∀ {b : Addr} {o : Obj}, s.heap.get? b = some o → (b = a → False) → (hidT s.heap H).get? b = some o := fun {b o} e n => hidT_get e (by
    cases q : H b with
    | none => rfl
    | some u => exact (n (hA b (by rw [q]; simp)).1).elim)
  have nsF : ∀ {b : Addr} {m : Str → Option Value}, s.heap.Ns b m → (hidT s.heap H).Ns b m := fun {b m} ⟨o, es, ep, e, d, r⟩ => ⟨o, es, ep, free e (fun z => by
    subst z
    rw [ha] at e; cases e
    cases (show Data.seq vs.toArray _ = Data.dict es ep from d)), d, r⟩
  have hK : K.In (hidT s.heap H) := fun b o e => hidT_get (KX b o e) (by
    cases q : H b with
    | none => rfl
    | some u =>
      obtain ⟨z, n⟩ := hA b (by rw [q]; simp)
      subst z
      rw [n] at e; cases e)
  have M : Mod K mg (hidT s.heap H) := by
    obtain ⟨mc, c1, c2⟩ := hn
    exact ⟨hK, nsF hm, ⟨mb, nsF hb, hbb⟩, mc, nsF c1, c2⟩
  have e0 : Env0 P w K mg (hidT s.heap H) callerA [] s H :=
    ⟨rfl, M, fun _ _ e => of_hidT e, Nat.le_of_eq (hidT_size _ _), trivial, fun b z => absurd (show b ∈ ([] : List Addr) from z) (by simp), ok, .of_eq hg⟩
  refine codeAny_mono ((F _ hK (nsF hm)).go callerA [] s H ⟨[.ref a], []⟩ [.ref a] [.ref a] _ _ hr rfl e0 (hx s _) (.cons rfl .nil) (hs H hO hS)) fun res s1 h => ?_
  cases res with
  | error e => exact h.elim
  | ok fl => cases fl with
    | next => exact h.elim
    | brk => exact h.elim
    | cont => exact h.elim
    | ret u =>
      obtain ⟨v, H1, os, ba, un, ok1, r, q⟩ := h
      cases (show v = V.bl true from q)
      cases (show u = Value.bool true from r)
      refine ⟨rfl, OldK.of_keep fun b o e => ?_, os, ba⟩
      cases z : H b with
      | none => exact un.keep b o e z (fun y => absurd (show b ∈ ([] : List Addr) from y) (by simp)) (by simp)
      | some u =>
        rcases hO b with y | ⟨ob, xs, y⟩
        · rw [z] at y; cases y
        · obtain ⟨e1, _⟩ := ok b _ y
          obtain ⟨e2, _⟩ := ok1 b _ (un.frzs b ob _ y)
          rw [e] at e1; cases e1
          exact e2
theorem walk_ofG {l : PySem.W.OpenLaw} {n k : Nat} {q : Program} {loose : List Str} {XP : (Str → Option Value) → Heap → Prop} {YP : World → Heap → Prop} {d : DefRec} {K : Params → PySem.W.Frag} {sp : World → Sp} {x : Str}
    (hn : l.most = some n) (hz : n ≤ sizeLine) (hd : d.params.defaults = []) (hr : Room k callerA) (hY : ∀ (w : World) (h : Heap), YP w h → (K w.params).In h)
    (F : ∀ (w : World) (mg : Str → Option Value) (fa : Addr) (h : Heap), (K w.params).In h → h.Ns mainGlobals mg → mg d.name = some (.ref fa) →
      ∃ fd : FuncData, (∀ (s : Shared) (u : Value), BindsTo s fd ⟨[u], []⟩ [(x, u)]) ∧ ∀ B : Heap, (K w.params).In B → B.Ns mainGlobals mg → FnG l.prog w (K w.params) mg B k fa fd [x] (sp w))
    (hs : ∀ (w : World) (H : Hp) (a : Addr) (ns : List Int), ns.length ≤ n → (∀ z ∈ ns, Builtin.Int.intBits z ≤ 1048576) → Only H → SqL (K w.params) H a (ns.map V.int) → sp w [.ref a] H (fun v _ => v = .bl true) fun _ _ _ => False) :
    PySem.W.WalkO q loose XP YP l.row.toRowW d [] (fun f vs => PySem.call f vs) := by
  refine Att.attach_callB hn hd fun w s₀ s mg mb fa o pm cd doc a vs ns G Y ho hfd hcd hmg hobj hi hlen hb hg => ?_
  obtain ⟨fd, hx, hF⟩ := F w mg fa _ (hY w _ Y) G.T.g hmg
  exact law_callG (hY w _ Y) G.T.g G.T.b G.T.builtins G.T.nolimit hg hobj hi (Nat.le_trans hlen hz) hr hF hx fun H hO hS => hs w H a ns hlen hb hO hS
/-! ### a list display that may walk a cell or not -/
def isCelE (f : EF) (S : Ms) : Bool := match f S with
  | some (.ref _, _) => true
  | _ => false
def cIte (P : Ms → Bool) (a b : CF) : CF := fun S => if P S = true then a S else b S
theorem mf_ite {X : Cx} {e : Expr} {P : Ms → Bool} {a b : CF} (h1 : MF X e a) (h2 : MF X e b) : MF X e (cIte P a b) := by
  obtain ⟨t1, p1, q1⟩ := h1
  obtain ⟨t2, p2, q2⟩ := h2
  refine ⟨fun s H Q => t1 s H Q ∨ t2 s H Q, ⟨fun pins s σ H Q I h => ?_⟩, fun S c S' h W s Q R k => ?_⟩
  · rcases h with h | h
    · exact p1.run pins s σ H Q I h
    · exact p2.run pins s σ H Q I h
  · unfold cIte at h
    split at h
    · exact Or.inl (q1 S c S' h W s Q R k)
    · exact Or.inr (q2 S c S' h W s Q R k)
@[simp] theorem cIte_ap {P : Ms → Bool} {a b : CF} {S : Ms} : cIte P a b S = if P S = true then a S else b S := rfl
end M

/-! M13: dicts with ints and texts for keys; defs that call themselves; index among texts -/
namespace M
open PySem PySem.Spec L2 PyProof.Rows
def lkK (kds : List (Key × D)) (k : Key) : Option D := match kds with
  | [] => none
  | (j, d) :: r => if j = k then some d else lkK r k
def ptK (kds : List (Key × D)) (k : Key) (d : D) : List (Key × D) := if (lkK kds k).isSome then kds.map fun kd => if kd.1 = k then (kd.1, d) else kd else kds ++ [(k, d)]
def dK : Key → D
  | .inl i => .int i
  | .inr s => .str s
section
variable {K : PySem.W.Frag} {F : Hp} {io : List Addr}
theorem RVk.look {k : Key} : ∀ {kvs : List (Key × V)} {kds : List (Key × D)}, RVk K F io kvs kds → (lkK kds k = none → valV kvs k = none) ∧ ∀ d, lkK kds k = some d → ∃ v, valV kvs k = some v ∧ RV K F io v d
  | _, _, .nil => ⟨fun _ => rfl, fun d h => by cases h⟩
  | (j, x) :: r, (_, y) :: r', .cons q t => by
    obtain ⟨i1, i2⟩ := RVk.look (k := k) t
    unfold lkK
    by_cases h : j = k
    · rw [if_pos h, valV_pos (p := (j, x)) h]
      exact ⟨(fun z => by cases z), (fun d z => by cases z; exact ⟨x, rfl, q⟩)⟩
    · rw [if_neg h, valV_neg (p := (j, x)) h]
      exact ⟨i1, i2⟩
theorem RVk.len : ∀ {kvs : List (Key × V)} {kds : List (Key × D)}, RVk K F io kvs kds → kvs.length = kds.length
  | _, _, .nil => rfl
  | _, _, .cons _ t => congrArg (· + 1) (RVk.len t)
theorem RVk.repl {k : Key} {v : V} {d : D} (h : RV K F io v d) : ∀ {kvs : List (Key × V)} {kds : List (Key × D)}, RVk K F io kvs kds → RVk K F io (kvs.map fun kv => if kv.1 = k then (kv.1, v) else kv) (kds.map fun kd => if kd.1 = k then (kd.1, d) else kd)
  | _, _, .nil => .nil
  | (j, x) :: r, (_, y) :: r', .cons q t => by
    have ih := RVk.repl (k := k) h t
    rw [List.map_cons, List.map_cons]
    by_cases c : j = k
    · dsimp only; rw [if_pos c, if_pos c]; exact .cons h ih
    · dsimp only; rw [if_neg c, if_neg c]; exact .cons q ih
theorem RVk.snoc {k : Key} {v : V} {d : D} (h : RV K F io v d) : ∀ {kvs : List (Key × V)} {kds : List (Key × D)}, RVk K F io kvs kds → RVk K F io (kvs ++ [(k, v)]) (kds ++ [(k, d)])
  | _, _, .nil => .cons h .nil
  | _, _, .cons a t => .cons a (RVk.snoc h t)
theorem RVk.put {k : Key} {v : V} {d : D} (h : RV K F io v d) {kvs : List (Key × V)} {kds : List (Key × D)} (r : RVk K F io kvs kds) : RVk K F io (putK kvs k v) (ptK kds k d) := by
  unfold putK ptK
  have hs : (kvs.any fun kv => decide (kv.1 = k)) = (lkK kds k).isSome := by
    rw [valV_any]
    obtain ⟨i1, i2⟩ := r.look (k := k)
    cases e : lkK kds k with
    | none => rw [i1 e]; rfl
    | some d' => obtain ⟨v', e', _⟩ := i2 d' e; rw [e']; rfl
  rw [hs]
  split
  · exact r.repl h
  · exact r.snoc h
theorem RVk.keys : ∀ {kvs : List (Key × V)} {kds : List (Key × D)}, RVk K F io kvs kds → RVs K F io (kvs.map fun kv => kV kv.1) (kds.map fun kd => dK kd.1)
  | _, _, .nil => .nil
  | (j, x) :: r, (_, y) :: r', .cons q t => by
    refine .cons ?_ (RVk.keys t)
    cases j with
    | inl i => exact .int i
    | inr s => exact .str s
theorem keyD_rh {W : Wd} {y : V} {e : D} {k : Key} (h : keyD e = some k) (r : RH K W y e) : y = kV k := by
  unfold keyD at h
  split at h
  · cases h; exact rhI r
  · cases h; exact rhS r
  · cases h
theorem keyD_rv {y : V} {e : D} {k : Key} (h : keyD e = some k) (r : RV K F io y e) : y = kV k := by
  unfold keyD at h
  split at h
  · cases h; exact r.int_inv
  · cases h; exact r.str_inv
  · cases h
end
/-! reading -/
def gIxK (d e : D) : Option D := match d with
  | .dct kds => (keyD e).bind fun k => lkK kds k
  | _ => none
def orG (g g' : D → D → Option D) : D → D → Option D := fun d e => (g d e).or (g' d e)
def gIx2 : D → D → Option D := orG gIx gIxK
def rDG : R2 := fun x y H Q => ∃ a v, x = .ref a ∧ DGet H a y (some v) ∧ Q v H
theorem rDG_ok {K : PySem.W.Frag} : ∀ x y d e z, gIxK d e = some z → ∀ W S s (Q : VK), Rel K W S s → RH K W x d → RH K W y e → (∀ v W', Rel K W' S s → Fr W S.r s W' S.r s → RV K W'.F W'.io v z → Q v W'.H) → rDG x y W.H Q := by
  intro x y d e z h W S s Q R rx ry k
  unfold gIxK at h
  split at h
  · rename_i kds
    obtain ⟨key, e1, h⟩ := bind_some h
    obtain ⟨a, kvs, rfl, h1, h2⟩ := rx
    obtain ⟨v, e2, q⟩ := h2.look.2 _ h
    refine ⟨a, v, rfl, ?_, k v W R .refl q⟩
    rw [keyD_rh e1 ry, ← e2]
    exact .k h1
  · cases h
section
variable {X : Cx} {pos xp : Pos} {a b e : Expr} {fa fb fe : EF} {g g' : D → D → Option D} {x : Str}
theorem me_ixK (hu : X.A.units + 1 < cLine) (ha : ME X a fa) (hb : ME X b fb) (hs : NoSl b := by intro _ _; rfl) : ME X (.Subscript a b pos) (eOp gIxK fa fb) := by
  obtain ⟨ta, p1, q1⟩ := ha
  obtain ⟨tb, p2, q2⟩ := hb
  exact ⟨tOp rDG ta tb, pe_dget hu p1 p2 hs, te_op rDG_ok q1 q2⟩
theorem me_ixKV (hu : X.A.units + 1 < cLine) (i : Nat) (hb : ME X b fb) (hs : NoSl b := by intro _ _; rfl) (hN : X.N[i]? = some x := by rfl) (hv : Vis X.env.scope x := by first | exact Or.inl rfl | exact Or.inr (Or.inl rfl) | exact Or.inr (Or.inr rfl))
    (hd : (x == ("__debug__" : Str)) = false := by decide) (hcd : (x == ("__classdict__" : Str)) = false := by decide) : ME X (.Subscript (.Name x xp) b pos) (eOpL gIxK i fb) := by
  obtain ⟨tb, p2, q2⟩ := hb
  exact ⟨tOp rDG (tVar i) tb, pe_dget hu (pe_var hN hv hd hcd) p2 hs, te_opL rDG_ok q2⟩
theorem or_some {α : Type} {o p : Option α} {z : α} (h : o.or p = some z) : o = some z ∨ p = some z := by
  cases o with
  | none => exact .inr h
  | some x => exact .inl h
theorem me_or2 (h1 : ME X e (eOp g fa fb)) (h2 : ME X e (eOp g' fa fb)) : ME X e (eOp (orG g g') fa fb) := by
  obtain ⟨t1, p1, q1⟩ := h1
  obtain ⟨t2, p2, q2⟩ := h2
  refine ⟨fun s H Q => t1 s H Q ∨ t2 s H Q, ⟨fun pins s σ H Q I h => ?_⟩, fun S d S' h W s Q R k => ?_⟩
  · rcases h with h | h
    · exact p1.run pins s σ H Q I h
    · exact p2.run pins s σ H Q I h
  · obtain ⟨p, e1, h⟩ := bind_some h
    obtain ⟨q, e2, h⟩ := bind_some h
    obtain ⟨z, e3, h⟩ := bind_some h
    rcases or_some e3 with e3 | e3
    · exact .inl (q1 S d S' (by show (fa S).bind _ = _; rw [e1]; show (fb p.2).bind _ = _; rw [e2]; show (g _ _).bind _ = _; rw [e3]; exact h) W s Q R k)
    · exact .inr (q2 S d S' (by show (fa S).bind _ = _; rw [e1]; show (fb p.2).bind _ = _; rw [e2]; show (g' _ _).bind _ = _; rw [e3]; exact h) W s Q R k)
theorem me_or2V {i : Nat} (h1 : ME X e (eOpL g i fb)) (h2 : ME X e (eOpL g' i fb)) : ME X e (eOpL (orG g g') i fb) := by
  obtain ⟨t1, p1, q1⟩ := h1
  obtain ⟨t2, p2, q2⟩ := h2
  refine ⟨fun s H Q => t1 s H Q ∨ t2 s H Q, ⟨fun pins s σ H Q I h => ?_⟩, fun S d S' h W s Q R k => ?_⟩
  · rcases h with h | h
    · exact p1.run pins s σ H Q I h
    · exact p2.run pins s σ H Q I h
  · unfold eOpL at h
    split at h
    · rename_i hh
      obtain ⟨q, e2, h⟩ := bind_some h
      obtain ⟨y, e1, h⟩ := bind_some h
      obtain ⟨z, e3, h⟩ := bind_some h
      rcases or_some e3 with e3 | e3
      · exact .inl (q1 S d S' (by unfold eOpL; rw [if_pos hh, e2]; show (sees i q.2).bind _ = _; rw [e1]; show (g _ _).bind _ = _; rw [e3]; exact h) W s Q R k)
      · exact .inr (q2 S d S' (by unfold eOpL; rw [if_pos hh, e2]; show (sees i q.2).bind _ = _; rw [e1]; show (g' _ _).bind _ = _; rw [e3]; exact h) W s Q R k)
    · cases h
theorem me_ix2 (hu : X.A.units + 1 < cLine) (ha : ME X a fa) (hb : ME X b fb) (hs : PlainIx b := by intro _ _; rfl) : ME X (.Subscript a b pos) (eOp gIx2 fa fb) := me_or2 (me_ix oIx ha hb hs) (me_ixK hu ha hb hs)
theorem me_ix2V (hu : X.A.units + 1 < cLine) (i : Nat) (hb : ME X b fb) (hs : PlainIx b := by intro _ _; rfl) (hN : X.N[i]? = some x := by rfl) (hv : Vis X.env.scope x := by first | exact Or.inl rfl | exact Or.inr (Or.inl rfl) | exact Or.inr (Or.inr rfl))
    (hd : (x == ("__debug__" : Str)) = false := by decide) (hcd : (x == ("__classdict__" : Str)) = false := by decide) : ME X (.Subscript (.Name x xp) b pos) (eOpL gIx2 i fb) := me_or2V (me_ixV i oIx hb hs hN hv hd hcd) (me_ixKV hu i hb hs hN hv hd hcd)
end
/-! writing -/
def modD (i : Nat) (h : List (Key × D) → Option (List (Key × D))) (S : Ms) : Option Ms := match S.r[i]? with
  | some (.own (.dct ds)) => (h ds).bind fun es => some { S with r := S.r.set i (.own (.dct es)) }
  | some (.val (.ref k)) => match S.m[k]? with
    | some (.dct ds) => (h ds).bind fun es => some { S with m := S.m.set k (.dct es) }
    | _ => none
  | _ => none
def putAt (d e : D) (kds : List (Key × D)) : Option (List (Key × D)) := (keyD e).bind fun k => if kds.length < LIM then some (ptK kds k d) else none
def gSubK (i : Nat) (f : EF) : GF := fun d S => if held i S then (f S).bind fun p => modD i (putAt d p.1) p.2 else none
def gAlt (g g' : GF) : GF := fun d S => (g d S).or (g' d S)
theorem modD_ok {K : PySem.W.Frag} {W : Wd} {S S' : Ms} {s : L2.St} (R : Rel K W S s) {i : Nat} {h : List (Key × D) → Option (List (Key × D))} (e : modD i h S = some S') : ∃ a ds es vs, s[i]? = some (some (.ref a)) ∧ h ds = some es ∧ W.H a = some (.dK vs) ∧ RVk K W.F W.io vs ds ∧
    ∀ ws, RVk K W.F W.io ws es → Rel K (W.wr a (.dK ws)) S' s ∧ Fr W S.r s (W.wr a (.dK ws)) S'.r s := by
  unfold modD at e
  split at e
  · rename_i ds q
    obtain ⟨es, e1, e⟩ := bind_some e
    cases e
    obtain ⟨a, e2, n1, n2, vs, h1, h2⟩ := R.owns i _ q
    refine ⟨a, ds, es, vs, e2, e1, h1, h2, fun ws r => ?_⟩
    exact R.wrOwn q e2 (c' := .dct es) ⟨ws, upd_same, r⟩
  · rename_i k q
    split at e
    · rename_i ds q2
      obtain ⟨es, e1, e⟩ := bind_some e
      cases e
      obtain ⟨v, e2, r⟩ := R.slots i _ q
      obtain ⟨a, rfl, e3⟩ := r.ref_inv
      obtain ⟨vs, h1, h2⟩ := R.cells k _ a q2 e3
      refine ⟨a, ds, es, vs, e2, e1, h1, h2, fun ws r => ?_⟩
      exact R.wrCell e3 (c' := .dct es) ⟨ws, upd_same, r⟩
    · cases e
  · cases e
section
variable {X : Cx} {pos xp : Pos} {x : Str} {e : Expr} {g g' : GF}
theorem set_dict (hu : X.A.units + 1 < cLine) : PSet X (fun o i v H Q => ∃ a H', o = .ref a ∧ DPut H a i v H' ∧ Q H') := by
  rintro pins s σ H o i v ov iv u Q I ro ri rv ⟨a, H', rfl, g, q⟩
  obtain rfl : ov = Value.ref a := ro
  exact d_setItem hu I g ri rv fun s' I' => ⟨H', I', q⟩
theorem mg_subK (hu : X.A.units + 1 < cLine) (i : Nat) {ie : Expr} {fi : EF} (hi : ME X ie fi) (hN : X.N[i]? = some x := by rfl) (hv : Vis X.env.scope x := by first | exact Or.inl rfl | exact Or.inr (Or.inl rfl) | exact Or.inr (Or.inr rfl))
    (hd : (x == ("__debug__" : Str)) = false := by decide) (hcd : (x == ("__classdict__" : Str)) = false := by decide)
    (ha : ∀ v, assign (.Subscript (.Name x xp) ie pos) X.env v = (do
      let ov ← holding [v] (eval (.Name x xp) X.env)
      let iv ← holding [v, ov] (eval ie X.env)
      standAt pos
      holding [v, ov, iv] (setItem ov iv v)
      release [v, ov, iv] []) := by intro _; rfl) : MG X (.Subscript (.Name x xp) ie pos) (gSubK i fi) := by
  obtain ⟨t, p, q⟩ := hi
  refine ⟨_, pg_sub (pe_var hN hv hd hcd) p (set_dict hu) ha, fun d S S' h W s v Q R r k => ?_⟩
  unfold gSubK at h
  split at h
  · rename_i hh
    obtain ⟨⟨d1, S1⟩, e1, h⟩ := bind_some h
    obtain ⟨u, eu⟩ := R.held hh
    refine ⟨u, eu, ?_⟩
    refine q S _ _ e1 W s _ R fun y W1 R1 f1 r1 => ?_
    obtain ⟨a, ds, es, vs, e2, e3, h1, h2, kk⟩ := modD_ok R1 h
    rw [eu] at e2; cases e2
    obtain ⟨key, ek, e3⟩ := bind_some e3
    split at e3
    · rename_i hl
      cases e3
      obtain ⟨R2, f2⟩ := kk _ (h2.put (k := key) (r.up f1))
      refine ⟨a, _, rfl, ?_, k _ _ R2 (f1.trans f2)⟩
      rw [keyD_rv ek r1]
      exact .k h1 (by rw [h2.len]; exact Nat.lt_of_lt_of_le hl lim_line)
    · cases e3
  · cases h
theorem mg_alt (h1 : MG X e g) (h2 : MG X e g') : MG X e (gAlt g g') := by
  obtain ⟨t1, p1, q1⟩ := h1
  obtain ⟨t2, p2, q2⟩ := h2
  refine ⟨fun v s H Q => t1 v s H Q ∨ t2 v s H Q, ⟨fun pins s σ H v u Q I r h => ?_⟩, fun d S S' h W s v Q R r k => ?_⟩
  · rcases h with h | h
    · exact p1.run pins s σ H v u Q I r h
    · exact p2.run pins s σ H v u Q I r h
  · rcases or_some h with h | h
    · exact .inl (q1 d S S' h W s v Q R r k)
    · exact .inr (q2 d S S' h W s v Q R r k)
end
/-! {}, len, list -/
def cDK : CF := fun S => some (.dct [], S)
section
variable {X : Cx} {pos : Pos}
theorem mf_dK : MF X (.Dict [] [] pos) cDK := by
  refine ⟨_, pe_dnewK, fun S c S' h W s Q R k => ?_⟩
  cases h
  intro p hp
  obtain ⟨R1, f1⟩ := R.wrNew (o := .dK []) hp
  exact k p _ R1 f1 hp ⟨R.freshF hp, R.freshIo hp, R.freshOwn hp, [], upd_same, .nil⟩
def orC (g g' : D → Option D) : D → Option D := fun d => (g d).or (g' d)
theorem CallM.or {f : Value} {g g' : D → Option D} (h : CallM X f g) (h' : CallM X f g') : CallM X f (orC g g') := by
  obtain ⟨r, a, b⟩ := h
  obtain ⟨r', a', b'⟩ := h'
  refine ⟨_, a.or a', fun x d z e W S s Q R rx k => ?_⟩
  rcases or_some e with e | e
  · exact .inl (b x d z e W S s Q R rx k)
  · exact .inr (b' x d z e W S s Q R rx k)
def orF (g g' : D → Option Cell) : D → Option Cell := fun d => (g d).or (g' d)
theorem CallMF.or {f : Value} {g g' : D → Option Cell} (h : CallMF X f g) (h' : CallMF X f g') : CallMF X f (orF g g') := by
  obtain ⟨r, a, b⟩ := h
  obtain ⟨r', a', b'⟩ := h'
  refine ⟨_, a.or a', fun x d z e W S s Q R rx k => ?_⟩
  rcases or_some e with e | e
  · exact .inl (b x d z e W S s Q R rx k)
  · exact .inr (b' x d z e W S s Q R rx k)
def gLenK : D → Option D
  | .dct kds => some (.int kds.length)
  | _ => none
theorem cLenK : CallM X (.builtin "len") gLenK := by
  refine ⟨_, call_lenD, fun x d z e W S s Q R rx k => ?_⟩
  unfold gLenK at e
  split at e
  · cases e
    obtain ⟨a, kvs, rfl, h1, h2⟩ := rx
    exact ⟨a, kvs, rfl, h1, by rw [h2.len]; exact k _ W R .refl (.int _)⟩
  · cases e
def gLen2 := orC gLen gLenK
theorem cLen2 : CallM X (.builtin "len") gLen2 := cLen.or cLenK
def gListK : D → Option Cell
  | .dct kds => some (.lst (kds.map fun kd => dK kd.1))
  | _ => none
theorem cListK (hc : X.calm = true) : CallMF X (.type "list") gListK := by
  refine ⟨_, call_listD hc, fun x d c e W S s Q R rx k => ?_⟩
  unfold gListK at e
  split at e
  · cases e
    obtain ⟨a, kvs, rfl, h1, h2⟩ := rx
    refine ⟨a, kvs, rfl, .inl h1, fun p hp => ?_⟩
    obtain ⟨R2, f2, n⟩ := R.newLst hp h2.keys
    exact k p _ hp n R2 f2
  · cases e
def gList2 := orF gList gListK
theorem cList2 (hc : X.calm = true) : CallMF X (.type "list") gList2 := cList.or (cListK hc)
end
/-! a def that calls itself -/
theorem mss_none {X : Cx} {st : List Stmt} : MSs X st (fun _ => none) := ⟨fun _ _ _ => False, ⟨fun _ _ _ _ _ _ h => h.elim⟩, fun S fl S' h => by cases h⟩
/-! index in a list -/
def firstP (d : PyData) : List PyData → Option Nat
  | [] => none
  | p :: ps => if PyData.eqv p d = true then some 0 else (firstP d ps).map (· + 1)
theorem firstP_ok {d : PyData} : ∀ {ps : List PyData} {j : Nat}, firstP d ps = some j → (∃ z, ps[j]? = some z ∧ PyData.eqv z d = true) ∧ ∀ (m : Nat) (z : PyData), m < j → ps[m]? = some z → PyData.eqv z d = false
  | [], _, h => by cases h
  | p :: ps, j, h => by
    unfold firstP at h
    split at h
    · rename_i c
      cases h
      exact ⟨⟨p, rfl, c⟩, fun m z hm => absurd hm (Nat.not_lt_zero _)⟩
    · rename_i c
      cases e : firstP d ps with
      | none => rw [e] at h; cases h
      | some i =>
        rw [e] at h
        cases h
        obtain ⟨⟨z, h1, h2⟩, h3⟩ := firstP_ok e
        refine ⟨⟨z, by simpa using h1, h2⟩, fun m z hm hz => ?_⟩
        cases m with
        | zero =>
          simp only [List.getElem?_cons_zero, Option.some.injEq] at hz
          subst hz
          simpa using c
        | succ m => exact h3 m z (Nat.lt_of_succ_lt_succ hm) (by simpa using hz)
def gIdx (x y : D) : Option D := match x with
  | .lst ds => (toPys ds).bind fun ps => (toPy y).bind fun d => if SeqAt.shaped (.list ps) = true ∧ SeqAt.shaped d = true then (firstP d ps).map fun j => .int (j : Nat) else none
  | _ => none
def eIdxE (fo fe : EF) : EF := fun S => (fo S).bind fun p => match p.1 with
  | .lst ds => (fe p.2).bind fun q => (gIdx (.lst ds) (vw q.2 q.1)).bind fun z => some (z, q.2)
  | _ => none
theorem me_idxE {X : Cx} {o e : Expr} {fo fe : EF} {apos pos : Pos} (hu : X.A.units + 65 < cLine) (ho : ME X o fo) (he : ME X e fe)
    (hbase : attributeBase o "index" X.env (eval o X.env) = eval o X.env := by rfl)
    (hfew : ((backTo pos (starEach [e] X.env)).all (fun x => !x.1) && (backToKw pos (keywordEach [] X.env)).all (fun x => x.1.isSome)
      && decide ([e].length + ([] : List Keyword).length + (if ([] : List Keyword).isEmpty then 0 else 1) < 30)) = true := by rfl)
    (hline : (apos.endLine == pos.line) = true := by rfl) (hs : starEach [e] X.env = (false, eval e X.env) :: starEach [] X.env := by rfl) (hplain : (backTo pos (starEach [] X.env)).any (·.1) = false := by rfl) :
    ME X (.Call (.Attribute o "index" apos) [e] [] pos) (eIdxE fo fe) := by
  obtain ⟨t, p, q⟩ := ho
  obtain ⟨t2, p2, q2⟩ := he
  refine ⟨_, pe_bm PySem.F.plainAttrs_list PySem.F.slot_list_index PySem.F.type_list_index (mt_indexD hu) p (pa_cons p2 pa_nil hs) hbase hfew hline hs hplain, fun S d S' h W s Q R k => ?_⟩
  obtain ⟨⟨d1, S1⟩, e1, h⟩ := bind_some h
  simp only at h
  split at h
  · rename_i ds
    obtain ⟨⟨d2, S2⟩, e2, h⟩ := bind_some h
    obtain ⟨z, e3, h⟩ := bind_some h
    cases h
    refine q S _ _ e1 W s _ R fun v W1 R1 f1 r1 => ?_
    have r1' := r1
    obtain ⟨a, vs, rfl, h1, h2⟩ := r1'.lst_inv
    refine ⟨.inl ⟨rfl, vs, .of (R1.sub _ _ h1)⟩, ?_⟩
    refine q2 S1 _ _ e2 W1 s _ R1 fun y W2 R2 f2 r2 => ?_
    simp only at e3
    unfold gIdx at e3
    obtain ⟨ps, c1, e3⟩ := bind_some e3
    obtain ⟨pd, c2, e3⟩ := bind_some e3
    split at e3
    · rename_i sh
      cases e4 : firstP pd ps with
      | none => rw [e4] at e3; cases e3
      | some j =>
        rw [e4] at e3
        cases e3
        obtain ⟨⟨zz, hz1, hz2⟩, hz3⟩ := firstP_ok e4
        exact ⟨a, y, pd, ps, j, zz, rfl, rfl, RV.dp R2.sub (r1.up f2) _ (by simp [toPy, c1]), rh_dp R2 (R2.vw r2) c2, sh.1, sh.2, hz1, hz2, hz3, k _ W2 R2 (f1.trans f2) (.int _)⟩
    · cases e3
  · cases h
section
variable {S : Ms} {f fo fe : EF} {i : Nat} {d e : D} {kds : List (Key × D)} {ds : List D} {g g' : GF}
@[simp] theorem gIx2_lst : gIx2 (.lst ds) e = gIx (.lst ds) e := by unfold gIx2 orG; simp [gIxK]
@[simp] theorem gIx2_tup : gIx2 (.tup ds) e = gIx (.tup ds) e := by unfold gIx2 orG; simp [gIxK]
@[simp] theorem gIx2_sc : gIx2 (.sc ds) e = gIx (.sc ds) e := by unfold gIx2 orG; simp [gIxK]
@[simp] theorem gIx2_str {x : Str} : gIx2 (.str x) e = gIx (.str x) e := by unfold gIx2 orG; simp [gIxK]
@[simp] theorem gIx2_dctS {x : Str} : gIx2 (.dct kds) (.str x) = lkK kds (.inr x) := by unfold gIx2 orG gIx; simp [gIxK, keyD]
@[simp] theorem gIx2_dctI {x : Int} : gIx2 (.dct kds) (.int x) = lkK kds (.inl x) := by unfold gIx2 orG gIx; simp [gIxK, keyD]
@[simp] theorem gLen2_lst : gLen2 (.lst ds) = some (.int ds.length) := rfl
@[simp] theorem gLen2_tup : gLen2 (.tup ds) = some (.int ds.length) := rfl
@[simp] theorem gLen2_sc : gLen2 (.sc ds) = some (.int ds.length) := rfl
@[simp] theorem gLen2_dct : gLen2 (.dct kds) = some (.int kds.length) := rfl
@[simp] theorem gList2_lst : gList2 (.lst ds) = some (.lst ds) := rfl
@[simp] theorem gList2_tup : gList2 (.tup ds) = some (.lst ds) := rfl
@[simp] theorem gList2_sc : gList2 (.sc ds) = some (.lst ds) := rfl
@[simp] theorem gList2_dct : gList2 (.dct kds) = some (.lst (kds.map fun kd => dK kd.1)) := rfl
@[simp] theorem modD_ap {x : List (Key × D) → Option (List (Key × D))} : modD i x S = match S.r[i]? with
  | some (.own (.dct ds)) => (x ds).bind fun es => some ⟨S.r.set i (.own (.dct es)), S.m⟩
  | some (.val (.ref k)) => match S.m[k]? with
    | some (.dct ds) => (x ds).bind fun es => some ⟨S.r, S.m.set k (.dct es)⟩
    | _ => none
  | _ => none := rfl
@[simp] theorem gSubK_ap : gSubK i f d S = if held i S then (f S).bind fun p => modD i (putAt d p.1) p.2 else none := rfl
@[simp] theorem gAlt_ap : gAlt g g' d S = (g d S).or (g' d S) := rfl
@[simp] theorem putAt_str {x : Str} : putAt d (.str x) kds = if kds.length < LIM then some (ptK kds (.inr x) d) else none := rfl
@[simp] theorem putAt_int {x : Int} : putAt d (.int x) kds = if kds.length < LIM then some (ptK kds (.inl x) d) else none := rfl
@[simp] theorem cDK_ap : cDK S = some (.dct [], S) := rfl
@[simp] theorem eIdxE_ap : eIdxE fo fe S = (fo S).bind fun p => match p.1 with
  | .lst ds => (fe p.2).bind fun q => (gIdx (.lst ds) (vw q.2 q.1)).bind fun z => some (z, q.2)
  | _ => none := rfl
@[simp] theorem lkK_nil {k : Key} : lkK [] k = none := rfl
@[simp] theorem lkK_cons {j k : Key} {r : List (Key × D)} : lkK ((j, d) :: r) k = if j = k then some d else lkK r k := rfl
end
end M

/-! M14: texts; a module's constants -/
namespace M
open PySem PySem.Spec L2 PyProof.Rows
theorem me_globS {X : Cx} {pos : Pos} {x z : Str} (h : ∃ t, X.mg x = some (.str z t)) (hg : Gl X x := by rfl) (hdb : (x == ("__debug__" : Str)) = false := by decide) : ME X (.Name x pos) (eC (.str z)) := by
  obtain ⟨t, h⟩ := h
  exact me_glob (v := .str z) hg h ⟨t, rfl⟩ (fun _ _ => .str z) hdb
theorem me_globI {X : Cx} {pos : Pos} {x : Str} {n : Int} (h : ∃ t, X.mg x = some (.int n t)) (hg : Gl X x := by rfl) (hdb : (x == ("__debug__" : Str)) = false := by decide) : ME X (.Name x pos) (eC (.int n)) := by
  obtain ⟨t, h⟩ := h
  exact me_glob (v := .int n) hg h ⟨t, rfl⟩ (fun _ _ => .int n) hdb
/-- a tuple of texts that the module holds -/
def strsB : List Value → List Str → Bool
  | [], [] => true
  | .str y _ :: us, z :: zs => decide (y = z) && strsB us zs
  | _, _ => false
theorem strsB_ok : ∀ {us : List Value} {zs : List Str}, strsB us zs = true → Vals (zs.map V.str) us
  | [], [], _ => .nil
  | [], _ :: _, h => by simp [strsB] at h
  | u :: us, zs, h => by
    cases u <;> cases zs <;> simp [strsB] at h
    obtain ⟨rfl, h⟩ := h
    exact .cons ⟨_, rfl⟩ (strsB_ok h)
theorem rvs_strs {K : PySem.W.Frag} {F : Hp} {io : List Addr} : ∀ zs : List Str, RVs K F io (zs.map V.str) (zs.map D.str)
  | [] => .nil
  | z :: zs => .cons (.str z) (rvs_strs zs)
def KStrs (K : PySem.W.Frag) (u : Value) (zs : List Str) : Prop := ∃ a, u = .ref a ∧ ∃ (o : Obj) (its : Array Value) (n : Nat), K.lookup a = some o ∧ o.cls = .type "tuple" ∧ o.data = .seq its n ∧ its.size ≤ sizeLine ∧ strsB its.toList zs = true
theorem me_globT {X : Cx} {pos : Pos} {x : Str} {zs : List Str} (h : ∃ u, X.mg x = some u ∧ KStrs X.K u zs) (hg : Gl X x := by rfl) (hdb : (x == ("__debug__" : Str)) = false := by decide) : ME X (.Name x pos) (eC (.tup (zs.map D.str))) := by
  obtain ⟨u, h, a, rfl, o, its, n, h1, h2, h3, h4, h5⟩ := h
  exact me_glob (v := .ref a) hg h rfl (fun _ _ => .tup (.inr ⟨o, its, n, h1, h2, h3, h4, strsB_ok h5⟩) (rvs_strs zs)) hdb
/-! in -/
def gInS (neg : Bool) (d e : D) : Option D := match d, e with
  | .str x, .str z => match x.cps.toList with
    | [c] => some (.bl (xor neg (decide (c ∈ z.cps.toList))))
    | _ => none
  | _, _ => none
theorem one_str {x : Str} {c : Nat} (h : x.cps.toList = [c]) : x = ⟨#[c]⟩ := Str.ext' (Array.toList_inj.mp h)
theorem oInS {X : Cx} : OpM X (compareOp .In) (gInS false) := by
  refine ⟨_, op_in_sign, fun x y d e z hz W S s Q R rx ry k => ?_⟩
  unfold gInS at hz
  split at hz
  · split at hz
    · rename_i c h
      cases hz
      cases rhS rx; cases rhS ry
      refine ⟨c, _, by rw [one_str h], rfl, ?_⟩
      have kk := k _ W R .refl (.bl _)
      simpa only [Bool.false_xor] using kk
    · cases hz
  · cases hz
theorem oNotInS {X : Cx} : OpM X (compareOp .NotIn) (gInS true) := by
  refine ⟨_, op_notIn_sign, fun x y d e z hz W S s Q R rx ry k => ?_⟩
  unfold gInS at hz
  split at hz
  · split at hz
    · rename_i c h
      cases hz
      cases rhS rx; cases rhS ry
      refine ⟨c, _, by rw [one_str h], rfl, ?_⟩
      have kk := k _ W R .refl (.bl _)
      simpa only [Bool.true_xor] using kk
    · cases hz
  · cases hz
def gIn3 (neg : Bool) (d e : D) : Option D := (gIn neg d e).or (gInS neg d e)
theorem oIn3 {X : Cx} (hu : X.A.units + 65 < cLine) : OpM X (compareOp .In) (gIn3 false) := (oIn hu).or oInS
theorem oNotIn3 {X : Cx} (hu : X.A.units + 65 < cLine) : OpM X (compareOp .NotIn) (gIn3 true) := (oNotIn hu).or oNotInS
/-! a text again and again -/
def gMulS (d e : D) : Option D := match d, e with
  | .str x, .int n => if x.length ≤ 16 ∧ n ≤ 1048576 ∧ -1048576 ≤ n then some (.str (Txt.mul x n)) else none
  | _, _ => none
theorem op_mul_str {X : Cx} : OpR X (binaryOp .Mult) (fun x y H Q => ∃ z n, x = .str z ∧ y = .int n ∧ z.length ≤ 16 ∧ n ≤ 1048576 ∧ -1048576 ≤ n ∧ Q (.str (Txt.mul z n)) H) := by
  intro pins s σ H x y v u Q I rx ry h
  obtain ⟨z, n, rfl, rfl, h1, h2, h3, q⟩ := h
  obtain ⟨t, rfl⟩ := rx
  obtain ⟨t', rfl⟩ := ry
  exact SB.mul (mulOk_of 16 1048576 h1 h2 (by omega) (by decide) (by decide)) fun t' tk => ⟨.str (Txt.mul z n), H, I.tok _, ⟨_, rfl⟩, q⟩
theorem oMulS {X : Cx} : OpM X (binaryOp .Mult) gMulS := by
  refine ⟨_, op_mul_str, fun x y d e z hz W S s Q R rx ry k => ?_⟩
  unfold gMulS at hz
  split at hz
  · split at hz
    · rename_i c
      cases hz
      cases rhS rx; cases rhI ry
      exact ⟨_, _, rfl, rfl, c.1, c.2.1, c.2.2, k _ W R .refl (.str _)⟩
    · cases hz
  · cases hz
def gMul3 (d e : D) : Option D := (gMul d e).or (gMulS d e)
theorem oMul3 {X : Cx} : OpM X (binaryOp .Mult) gMul3 := oMul.or oMulS
/-! the signs of a text, one by one -/
def iStrM (f : EF) : AF := fun S => (f S).bind fun p => match p.1 with
  | .str z => some (z.cps.toList.map (fun c => D.str ⟨#[c]⟩), p.2)
  | _ => none
theorem mi_str {X : Cx} {tg e : Expr} {fe : EF} (he : ME X e fe) : MI X tg e (iStrM fe) := by
  obtain ⟨t, p, q⟩ := he
  refine ⟨_, pi_str p, fun S ds S' h W s Rr R k => ?_⟩
  obtain ⟨⟨d1, S1⟩, e1, h⟩ := bind_some h
  simp only at h
  split at h
  · rename_i z
    cases h
    refine q S _ _ e1 W s _ R fun v W1 R1 f1 r1 => ?_
    cases r1.str_inv
    refine ⟨z, rfl, k _ W1 R1 f1 ⟨fun W2 S s R hF hi i d e => ?_, fun W2 S s R hF hi => ?_⟩⟩
    · rw [List.getElem?_map] at e
      obtain ⟨c, ec, e⟩ := Option.map_eq_some_iff.mp e
      cases e
      have hl := (List.getElem?_eq_some_iff.mp ec).1
      rw [Array.length_toList] at hl
      refine ⟨hl, fun x H' y => ⟨W2, y.1.symm, R, .refl, ?_⟩⟩
      obtain ⟨_, c', ec', rfl⟩ := y
      rw [Array.getElem?_toList] at ec
      rw [ec] at ec'
      cases ec'
      exact .str _
    · show z.cps.size ≤ _
      simp
  · cases h
/-! join -/
def strsD : List D → Option (List Str)
  | [] => some []
  | .str z :: ds => (strsD ds).map (z :: ·)
  | _ :: _ => none
theorem strsD_rv {K : PySem.W.Frag} {F : Hp} {io : List Addr} : ∀ {vs : List V} {ds : List D} {zs : List Str}, RVs K F io vs ds → strsD ds = some zs → vs = zs.map V.str
  | _, _, _, .nil, h => by cases h; rfl
  | _, _, _, @RVs.cons _ _ _ v vs d ds r t, h => by
    cases d <;> simp [strsD] at h
    obtain ⟨ys, h, rfl⟩ := h
    cases r.str_inv
    rw [strsD_rv t h]; rfl
def joinOk (a : Str) (ys : List Str) : Prop := (ys.map (·.length)).sum + ys.length * a.length ≤ 16777216
open Classical in
noncomputable def eJoin (fo fe : EF) : EF := fun S => (fo S).bind fun p => match p.1 with
  | .str a => (fe p.2).bind fun q => match vw q.2 q.1 with
    | .lst ds => (strsD ds).bind fun ys => if joinOk a ys then some (.str (Txt.join a ys), q.2) else none
    | _ => none
  | _ => none
theorem me_join {X : Cx} {o e : Expr} {fo fe : EF} {apos pos : Pos} (ho : ME X o fo) (he : ME X e fe) (hs : starEach [e] X.env = [(false, eval e X.env)] := by rfl) (hbase : attributeBase o "join" X.env (eval o X.env) = eval o X.env := by rfl) (hline : (apos.endLine == pos.line) = true := by rfl) :
    ME X (.Call (.Attribute o "join" apos) [e] [] pos) (eJoin fo fe) := by
  obtain ⟨t, p, q⟩ := ho
  obtain ⟨t2, p2, q2⟩ := he
  refine ⟨_, pe_join p p2 hs hbase hline, fun S d S' h W s Q R k => ?_⟩
  obtain ⟨⟨d1, S1⟩, e1, h⟩ := bind_some h
  simp only at h
  split at h
  · rename_i a
    obtain ⟨⟨d2, S2⟩, e2, h⟩ := bind_some h
    refine q S _ _ e1 W s _ R fun v W1 R1 f1 r1 => ?_
    cases r1.str_inv
    refine ⟨⟨a, rfl⟩, ?_⟩
    refine q2 S1 _ _ e2 W1 s _ R1 fun y W2 R2 f2 r2 => ?_
    have r3 := R2.vw r2
    simp only at h
    generalize vw S2 d2 = w at h r3
    split at h
    · rename_i ds
      obtain ⟨ys, e3, h⟩ := bind_some h
      split at h
      · rename_i c
        cases h
        obtain ⟨p', vs, rfl, h1, h2⟩ := r3
        cases strsD_rv h2 e3
        exact ⟨a, p', ys, rfl, rfl, .inl (.of h1), c, k _ W2 R2 (f1.trans f2) (.str _)⟩
      · cases h
    · cases h
  · cases h
/-! isinstance of what may be a cell -/
theorem tyh {K : PySem.W.Frag} {W : Wd} {S : Ms} {s : L2.St} (R : Rel K W S s) {v : V} {d : D} {n : String} (h : RH K W v d) (e : tyName d = some n) : TyX K W.H v (.type n) := by
  cases d with
  | lst ds => cases e; obtain ⟨a, vs, rfl, h1, h2⟩ := h; exact .base (.lst h1)
  | dct ds => cases e; obtain ⟨a, vs, rfl, h1, h2⟩ := h; exact .base (.dK h1)
  | non => exact tyx R (show RV _ _ _ _ _ from h) e
  | bl b => exact tyx R (show RV _ _ _ _ _ from h) e
  | int b => exact tyx R (show RV _ _ _ _ _ from h) e
  | str b => exact tyx R (show RV _ _ _ _ _ from h) e
  | tup ds => exact tyx R (show RV _ _ _ _ _ from h) e
  | sc ds => cases e
  | ref k => cases e
def eIsiC (T : String) (f : EF) : EF := fun S => (f S).bind fun p => (gIsi T (vw p.2 p.1)).bind fun z => some (z, p.2)
theorem me_isiC {X : Cx} {pos : Pos} {e : Expr} {y : Str} {T : String} {f : EF} {p yp : Pos} (hg : Gl X "isinstance") (hm : X.mg "isinstance" = none) (hgy : Gl X y) (hmy : X.mg y = none) (hv : bootBuiltins y = some (.type T)) (ha : ME X e f)
    (hb : bootBuiltins "isinstance" = some (.builtin "isinstance") := by decide +kernel) (hny : y ≠ "__name__" := by decide) (hdy : (y == ("__debug__" : Str)) = false := by decide) (hn : ("isinstance" : Str) ≠ "__name__" := by decide)
    (hs : starEach [e, .Name y yp] X.env = (false, eval e X.env) :: starEach [.Name y yp] X.env := by rfl) (hpl : (backTo pos (starEach [.Name y yp] X.env)).any (·.1) = false := by rfl)
    (hs2 : starEach [.Name y yp] X.env = (false, eval (.Name y yp) X.env) :: starEach [] X.env := by rfl) : ME X (.Call (.Name "isinstance" p) [e, .Name y yp] [] pos) (eIsiC T f) := by
  obtain ⟨t, p, q⟩ := ha
  refine ⟨_, pe_callB call_isi hg hm hb (pa_cons p (pa_cons (pe_bltn (v := .ty T) hgy hmy hv rfl hny hdy) pa_nil hs2) hs) hn (by decide) hs hpl, fun S d S' hz W s Q R k => ?_⟩
  obtain ⟨⟨d1, S1⟩, e1, hz⟩ := bind_some hz
  obtain ⟨z, e2, hz⟩ := bind_some hz
  cases hz
  refine q S _ _ e1 W s _ R fun v W1 R1 f1 r1 => ?_
  obtain ⟨n, e3, e2⟩ := bind_some e2
  obtain ⟨b, e4, e2⟩ := bind_some e2
  cases e2
  exact ⟨v, .ty T, .type n, .type T, b, rfl, .ty T, tyh R1 (R1.vw r1) e3, kit_ty e4, k _ W1 R1 f1 (.bl _)⟩
section
variable {S : Ms} {f fo fe : EF} {x z : Str} {c : Nat} {d e : D} {ds : List D} {b : Bool} {T : String} {i n : Int}
@[simp] theorem eIsiC_ap : eIsiC T f S = (f S).bind fun p => (gIsi T (vw p.2 p.1)).bind fun z => some (z, p.2) := rfl
open Classical in
@[simp] theorem eJoin_ap : eJoin fo fe S = (fo S).bind fun p => match p.1 with
  | .str a => (fe p.2).bind fun q => match vw q.2 q.1 with
    | .lst ds => (strsD ds).bind fun ys => if joinOk a ys then some (.str (Txt.join a ys), q.2) else none
    | _ => none
  | _ => none := rfl
@[simp] theorem iStrM_ap : iStrM f S = (f S).bind fun p => match p.1 with
  | .str z => some (z.cps.toList.map (fun c => D.str ⟨#[c]⟩), p.2)
  | _ => none := rfl
theorem gIx_str : gIx (.str z) (.int i) = if z.length ≤ 1000000 then (atI z.cps.toList i).bind fun c => some (.str ⟨#[c]⟩) else none := rfl
theorem gLen_str : gLen (.str z) = if z.length ≤ 1000000 then some (.int z.length) else none := rfl
theorem gIn3_sign {neg : Bool} : gIn3 neg (.str ⟨#[c]⟩) (.str z) = some (.bl (xor neg (decide (c ∈ z.cps.toList)))) := rfl
theorem gIn3_tup {neg : Bool} : gIn3 neg d (.tup ds) = gIn neg d (.tup ds) := by
  unfold gIn3 gInS; cases d <;> simp
theorem gIn3_lst {neg : Bool} : gIn3 neg d (.lst ds) = gIn neg d (.lst ds) := by
  unfold gIn3 gInS; cases d <;> simp
@[simp] theorem gMul3_int : gMul3 (.int i) (.int n) = gMul (.int i) (.int n) := by
  unfold gMul3 gMulS; simp
theorem gMul3_str : gMul3 (.str z) (.int n) = if z.length ≤ 16 ∧ n ≤ 1048576 ∧ -1048576 ≤ n then some (.str (Txt.mul z n)) else none := rfl
end
end M

/-! M15: int of a text -/
namespace M
open PySem PySem.Spec L2 PyProof.Rows
def gIntS : D → Option D
  | .str z => (intText? z).bind fun n => if z.length ≤ 640 then some (.int n) else none
  | _ => none
theorem cIntS {X : Cx} : CallM X (.type "int") gIntS := by
  refine ⟨_, call_int_str, fun x d z hz W S s Q R rx k => ?_⟩
  unfold gIntS at hz
  split at hz
  · obtain ⟨n, e, hz⟩ := bind_some hz
    split at hz
    · rename_i c
      cases hz
      cases rhS rx
      exact ⟨_, _, rfl, e, c, k _ W R .refl (.int _)⟩
    · cases hz
  · cases hz
def gInt3 : D → Option D := orC gInt gIntS
theorem cInt3 {X : Cx} : CallM X (.type "int") gInt3 := cInt.or cIntS
@[simp] theorem gInt3_int {i : Int} : gInt3 (.int i) = some (.int i) := rfl
@[simp] theorem gInt3_bl {b : Bool} : gInt3 (.bl b) = some (.int (if b then 1 else 0)) := rfl
theorem gInt3_str {z : Str} : gInt3 (.str z) = (intText? z).bind fun n => if z.length ≤ 640 then some (.int n) else none := rfl
end M

/-! M16: a list again and again -/
namespace M
open PySem PySem.Spec L2 PyProof.Rows
def gMulL (d e : D) : Option D := match d, e with
  | .lst xs, .int n => if xs.length * n.toNat ≤ LIM ∧ n ≤ 1048576 ∧ -1048576 ≤ n then some (.lst (List.replicate n.toNat xs).flatten) else none
  | _, _ => none
theorem RVs.rep {K : PySem.W.Frag} {F : Hp} {io : List Addr} {vs : List V} {ds : List D} (h : RVs K F io vs ds) : ∀ n : Nat, RVs K F io (List.replicate n vs).flatten (List.replicate n ds).flatten
  | 0 => .nil
  | n + 1 => by
    rw [List.replicate_succ, List.flatten_cons, List.replicate_succ, List.flatten_cons]
    exact h.append (RVs.rep h n)
theorem oMulL {X : Cx} : OpM X (binaryOp .Mult) gMulL := by
  refine ⟨_, op_rep, fun x y d e z hz W S s Q R rx ry k => ?_⟩
  unfold gMulL at hz
  split at hz
  · rename_i xs n
    split at hz
    · rename_i c
      cases hz
      obtain ⟨l, vs, rfl, h1, h2⟩ := rx
      cases rhI ry
      refine ⟨l, n, vs, rfl, rfl, h1, by omega, by omega, by rw [h2.length]; exact Nat.le_trans c.1 lim_line, fun p hp => ?_⟩
      obtain ⟨R1, f1⟩ := R.al (o := .lst (List.replicate n.toNat vs).flatten) hp
      exact k _ _ R1 f1 (.lst upd_same ((RVs.rep h2 n.toNat).up f1))
    · cases hz
  · cases hz
def gMul4 (d e : D) : Option D := (gMul3 d e).or (gMulL d e)
theorem oMul4 {X : Cx} : OpM X (binaryOp .Mult) gMul4 := oMul3.or oMulL
/-! two lists joined to a new one -/
def cCat (fa fb : EF) : CF := fun S => (fa S).bind fun p => (fb p.2).bind fun q => match vw q.2 p.1, vw q.2 q.1 with
  | .lst xs, .lst ys => if xs.length + ys.length ≤ LIM then some (.lst (xs ++ ys), q.2) else none
  | _, _ => none
theorem mf_cat {X : Cx} {a b : Expr} {fa fb : EF} {pos : Pos} (ha : ME X a fa) (hb : ME X b fb) : MF X (.BinOp a .Add b pos) (cCat fa fb) := by
  obtain ⟨ta, p1, q1⟩ := ha
  obtain ⟨tb, p2, q2⟩ := hb
  refine ⟨_, pe_op op_cat p1 p2, fun S c S' h W s Q R k => ?_⟩
  obtain ⟨⟨d1, S1⟩, e1, h⟩ := bind_some h
  obtain ⟨⟨d2, S2⟩, e2, h⟩ := bind_some h
  refine q1 S _ _ e1 W s _ R fun x W1 R1 f1 r1 => ?_
  refine q2 S1 _ _ e2 W1 s _ R1 fun y W2 R2 f2 r2 => ?_
  have rx := R2.vw (r1.up f2)
  have ry := R2.vw r2
  simp only at h
  generalize vw S2 d1 = w1 at h rx
  generalize vw S2 d2 = w2 at h ry
  split at h
  · split at h
    · rename_i cc
      cases h
      obtain ⟨l, vs, rfl, h1, h2⟩ := rx
      obtain ⟨m, zs, rfl, h3, h4⟩ := ry
      refine ⟨l, m, vs, zs, rfl, rfl, h1, h3, by rw [h2.length, h4.length]; exact Nat.le_trans cc lim_line, fun p hp => ?_⟩
      obtain ⟨R3, f3, n⟩ := R2.newLst hp (h2.append h4)
      exact k _ _ R3 ((f1.trans f2).trans f3) ((f1.trans f2).hp _ hp) n
    · cases h
  · cases h
def cCatL (i : Nat) (fb : EF) : CF := fun S => if held i S then (fb S).bind fun q => (sees i q.2).bind fun d => match d, vw q.2 q.1 with
  | .lst xs, .lst ys => if xs.length + ys.length ≤ LIM then some (.lst (xs ++ ys), q.2) else none
  | _, _ => none
  else none
theorem mf_catL {X : Cx} {b : Expr} {fb : EF} {pos xp : Pos} {x : Str} (i : Nat) (hb : ME X b fb) (hN : X.N[i]? = some x := by rfl) (hv : Vis X.env.scope x := by first | exact Or.inl rfl | exact Or.inr (Or.inl rfl) | exact Or.inr (Or.inr rfl))
    (hd : (x == ("__debug__" : Str)) = false := by decide) (hcd : (x == ("__classdict__" : Str)) = false := by decide) : MF X (.BinOp (.Name x xp) .Add b pos) (cCatL i fb) := by
  obtain ⟨tb, p2, q2⟩ := hb
  refine ⟨_, pe_op op_cat (pe_var hN hv hd hcd) p2, fun S c S' h W s Q R k => ?_⟩
  unfold cCatL at h
  split at h
  · rename_i hh
    obtain ⟨⟨d2, S2⟩, e2, h⟩ := bind_some h
    obtain ⟨d1, e1, h⟩ := bind_some h
    obtain ⟨x0, ex⟩ := R.held hh
    refine ⟨x0, ex, ?_⟩
    refine q2 S _ _ e2 W s _ R fun y W2 R2 f2 r2 => ?_
    obtain ⟨x', ex', rx⟩ := R2.sees e1
    rw [ex] at ex'
    cases ex'
    have ry := R2.vw r2
    simp only at h
    generalize vw S2 d2 = w2 at h ry
    split at h
    · split at h
      · rename_i cc
        cases h
        obtain ⟨l, vs, rfl, h1, h2⟩ := rx
        obtain ⟨m, zs, rfl, h3, h4⟩ := ry
        refine ⟨l, m, vs, zs, rfl, rfl, h1, h3, by rw [h2.length, h4.length]; exact Nat.le_trans cc lim_line, fun p hp => ?_⟩
        obtain ⟨R3, f3, n⟩ := R2.newLst hp (h2.append h4)
        exact k _ _ R3 (f2.trans f3) (f2.hp _ hp) n
      · cases h
    · cases h
  · cases h
@[simp] theorem cCat_ap {fa fb : EF} {S : Ms} : cCat fa fb S = (fa S).bind fun p => (fb p.2).bind fun q => match vw q.2 p.1, vw q.2 q.1 with
  | .lst xs, .lst ys => if xs.length + ys.length ≤ LIM then some (.lst (xs ++ ys), q.2) else none
  | _, _ => none := rfl
@[simp] theorem cCatL_ap {i : Nat} {fb : EF} {S : Ms} : cCatL i fb S = if held i S then (fb S).bind fun q => (sees i q.2).bind fun d => match d, vw q.2 q.1 with
  | .lst xs, .lst ys => if xs.length + ys.length ≤ LIM then some (.lst (xs ++ ys), q.2) else none
  | _, _ => none
  else none := rfl
@[simp] theorem gMul4_int {i n : Int} : gMul4 (.int i) (.int n) = gMul (.int i) (.int n) := by
  unfold gMul4 gMulL; simp
theorem gMul4_str {z : Str} {n : Int} : gMul4 (.str z) (.int n) = gMul3 (.str z) (.int n) := by
  unfold gMul4 gMulL; simp
theorem gMul4_lst {xs : List D} {n : Int} : gMul4 (.lst xs) (.int n) = if xs.length * n.toNat ≤ LIM ∧ n ≤ 1048576 ∧ -1048576 ≤ n then some (.lst (List.replicate n.toNat xs).flatten) else none := rfl
end M

/-! M17: texts that are split; f-strings -/
namespace M
open PySem PySem.Spec L2 PyProof.Rows
theorem ms_none {X : Cx} {st : Stmt} : MS X st (fun _ => none) := ⟨fun _ _ _ => False, ⟨fun _ _ _ _ _ _ h => h.elim⟩, fun S fl S' h => by cases h⟩
/-! == and != of texts, whatever their signs -/
def gNeS : D → D → Option D
  | .str a, .str b => some (.bl (!decide (a = b)))
  | _, _ => none
theorem oNeS {X : Cx} : OpM X (compareOp .NotEq) gNeS := by
  refine ⟨_, op_ne, fun x y d e z hz W S s Q R rx ry k => ?_⟩
  unfold gNeS at hz
  split at hz
  · rename_i a b
    cases hz
    cases rhS rx
    cases rhS ry
    refine ⟨rfl, ?_⟩
    have : decide (V.str a = V.str b) = decide (a = b) := by rw [Bool.eq_iff_iff]; simp
    rw [this]
    exact k _ W R .refl (.bl _)
  · cases hz
def gEq2 : D → D → Option D := orG gEqS gEq
def gNe2 : D → D → Option D := orG gNeS gNe
theorem oEq2 {X : Cx} (hu : X.A.units + 64 < cLine) : OpM X (compareOp .Eq) gEq2 := oEqS.or (oEq hu)
theorem oNe2 {X : Cx} (hu : X.A.units + 64 < cLine) : OpM X (compareOp .NotEq) gNe2 := oNeS.or (oNe hu)
/-! split -/
theorem rvs_strsD {K : PySem.W.Frag} {F : Hp} {io : List Addr} : ∀ zs : List Str, RVs K F io (zs.map V.str) (zs.map D.str)
  | [] => .nil
  | z :: zs => .cons (.str z) (rvs_strsD zs)
def cSplit (fo fe : EF) : CF := fun S => (fo S).bind fun p => match p.1 with
  | .str a => (fe p.2).bind fun q => match q.1 with
    | .str b => if (b.length == 0) = false ∧ a.length + 2 ≤ LIM then some (.lst ((Txt.split a b).map D.str), q.2) else none
    | _ => none
  | _ => none
theorem mf_split {X : Cx} {o e : Expr} {fo fe : EF} {apos pos : Pos} (ho : ME X o fo) (he : ME X e fe) (hs : starEach [e] X.env = [(false, eval e X.env)] := by rfl) (hbase : attributeBase o "split" X.env (eval o X.env) = eval o X.env := by rfl) (hline : (apos.endLine == pos.line) = true := by rfl) :
    MF X (.Call (.Attribute o "split" apos) [e] [] pos) (cSplit fo fe) := by
  obtain ⟨t, p, q⟩ := ho
  obtain ⟨t2, p2, q2⟩ := he
  refine ⟨_, pe_split p p2 hs hbase hline, fun S d S' h W s Q R k => ?_⟩
  obtain ⟨⟨d1, S1⟩, e1, h⟩ := bind_some h
  simp only at h
  split at h
  · rename_i a
    obtain ⟨⟨d2, S2⟩, e2, h⟩ := bind_some h
    simp only at h
    split at h
    · rename_i b
      split at h
      · rename_i c
        cases h
        refine q S _ _ e1 W s _ R fun v W1 R1 f1 r1 => ?_
        cases r1.str_inv
        refine ⟨⟨a, rfl⟩, ?_⟩
        refine q2 S1 _ _ e2 W1 s _ R1 fun y W2 R2 f2 r2 => ?_
        cases r2.str_inv
        refine ⟨a, b, rfl, rfl, c.1, Nat.le_trans c.2 lim_line, fun l hl => ?_⟩
        obtain ⟨R3, f3, n⟩ := R2.newLst hl (rvs_strsD (Txt.split a b))
        exact k _ _ R3 ((f1.trans f2).trans f3) ((f1.trans f2).hp _ hl) n
      · cases h
    · cases h
  · cases h
/-! f-strings -/
noncomputable def gFmt : D → Option D
  | .str z => if z.length ≤ LIM then some (.str z) else none
  | .int i => @ite (Option D) (-BDIV < i ∧ i < BDIV) (Classical.propDecidable _) (some (.str (Str.ofString (toString i)))) none
  | _ => none
noncomputable def eFmt (f : EF) : EF := fun S => (f S).bind fun p => (gFmt p.1).bind fun z => some (z, p.2)
theorem bdiv_bits {i : Int} (h : -BDIV < i ∧ i < BDIV) : i.natAbs.log2 < 1920 := by
  have h1 : i.natAbs < 2 ^ 1920 := by
    have : BDIV ≤ ((2 ^ 1920 : Nat) : Int) := by decide +kernel
    omega
  by_cases h0 : i.natAbs = 0
  · rw [h0]; decide
  · exact (Nat.log2_lt h0).mpr h1
theorem me_fmt {X : Cx} {e : Expr} {f : EF} {pos : Pos} (he : ME X e f) : ME X (.FormattedValue e (-1) none pos) (eFmt f) := by
  obtain ⟨t, p, q⟩ := he
  refine ⟨_, pe_fmt p, fun S d S' h W s Q R k => ?_⟩
  obtain ⟨⟨d1, S1⟩, e1, h⟩ := bind_some h
  obtain ⟨z, e2, h⟩ := bind_some h
  cases h
  refine q S _ _ e1 W s _ R fun v W1 R1 f1 r1 => ?_
  simp only at e2
  unfold gFmt at e2
  split at e2
  · split at e2
    · rename_i c
      cases e2
      cases r1.str_inv
      exact .inl ⟨_, rfl, Nat.le_trans c lim_line, k _ W1 R1 f1 (.str _)⟩
    · cases e2
  · split at e2
    · rename_i c
      cases e2
      cases r1.int_inv
      exact .inr ⟨_, rfl, bdiv_bits c, k _ W1 R1 f1 (.str _)⟩
    · cases e2
  · cases e2
/-- parts of an f-string: what stands ahead, and then theirs -/
abbrev JF := Str → Ms → Option (Str × Ms)
def TJok (K : PySem.W.Frag) (ts : List TE) (f : JF) : Prop := ∀ acc S y S', f acc S = some (y, S') → ∀ W s (Q : Str → Hp → Prop), Rel K W S s → (∀ W', Rel K W' S' s → Fr W S.r s W' S'.r s → Q y W'.H) → tJs ts acc s W.H Q
def MJ (X : Cx) (es : List Expr) (f : JF) : Prop := ∃ ts, PJ X es ts ∧ TJok X.K ts f
def jNil : JF := fun acc S => some (acc, S)
def jCons (f : EF) (g : JF) : JF := fun acc S => (f S).bind fun p => match p.1 with
  | .str y => if (acc ++ y).length ≤ LIM then g (acc ++ y) p.2 else none
  | _ => none
theorem mj_nil {X : Cx} : MJ X [] jNil := ⟨[], .nil, fun acc S y S' h W s Q R k => by cases h; exact k W R .refl⟩
theorem mj_cons {X : Cx} {e : Expr} {es : List Expr} {f : EF} {g : JF} (he : ME X e f) (hs : MJ X es g) : MJ X (e :: es) (jCons f g) := by
  obtain ⟨t, p, q⟩ := he
  obtain ⟨ts, p2, q2⟩ := hs
  refine ⟨t :: ts, .cons p p2, fun acc S y S' h W s Q R k => ?_⟩
  obtain ⟨⟨d1, S1⟩, e1, h⟩ := bind_some h
  simp only at h
  split at h
  · rename_i z
    split at h
    · rename_i c
      refine q S _ _ e1 W s _ R fun v W1 R1 f1 r1 => ?_
      cases r1.str_inv
      exact ⟨z, rfl, Nat.le_trans c lim_line, q2 _ _ _ _ h W1 s _ R1 fun W2 R2 f2 => k W2 R2 (f1.trans f2)⟩
    · cases h
  · cases h
def eJs (g : JF) : EF := fun S => (g Str.empty S).bind fun p => some (.str p.1, p.2)
theorem me_joined {X : Cx} {v1 v2 : Expr} {rest : List Expr} {g : JF} {pos : Pos} (h : MJ X (v1 :: v2 :: rest) g) : ME X (.JoinedStr (v1 :: v2 :: rest) pos) (eJs g) := by
  obtain ⟨ts, p, q⟩ := h
  refine ⟨_, pe_joined p, fun S d S' hz W s Q R k => ?_⟩
  obtain ⟨⟨y, S1⟩, e1, hz⟩ := bind_some hz
  cases hz
  exact q _ S _ _ e1 W s _ R fun W1 R1 f1 => k _ W1 R1 f1 (.str _)
section
variable {S : Ms} {f fo fe : EF} {g : JF} {acc z : Str} {i : Int}
@[simp] theorem cSplit_ap : cSplit fo fe S = (fo S).bind fun p => match p.1 with
  | .str a => (fe p.2).bind fun q => match q.1 with
    | .str b => if (b.length == 0) = false ∧ a.length + 2 ≤ LIM then some (.lst ((Txt.split a b).map D.str), q.2) else none
    | _ => none
  | _ => none := rfl
@[simp] theorem eFmt_ap : eFmt f S = (f S).bind fun p => (gFmt p.1).bind fun z => some (z, p.2) := rfl
@[simp] theorem jNil_ap : jNil acc S = some (acc, S) := rfl
@[simp] theorem jCons_ap : jCons f g acc S = (f S).bind fun p => match p.1 with
  | .str y => if (acc ++ y).length ≤ LIM then g (acc ++ y) p.2 else none
  | _ => none := rfl
@[simp] theorem eJs_ap : eJs g S = (g Str.empty S).bind fun p => some (.str p.1, p.2) := rfl
@[simp] theorem gEq2_str {a b : Str} : gEq2 (.str a) (.str b) = some (.bl (decide (a = b))) := rfl
@[simp] theorem gEq2_int {d : D} : gEq2 (.int i) d = gEq (.int i) d := by unfold gEq2 orG; simp [gEqS]
@[simp] theorem gEq2_tup {ds : List D} {d : D} : gEq2 (.tup ds) d = gEq (.tup ds) d := by unfold gEq2 orG; simp [gEqS]
@[simp] theorem gEq2_lst {ds : List D} {d : D} : gEq2 (.lst ds) d = gEq (.lst ds) d := by unfold gEq2 orG; simp [gEqS]
@[simp] theorem gEq2_non {d : D} : gEq2 .non d = gEq .non d := by unfold gEq2 orG; simp [gEqS]
@[simp] theorem gEq2_bl {b : Bool} {d : D} : gEq2 (.bl b) d = gEq (.bl b) d := by unfold gEq2 orG; simp [gEqS]
@[simp] theorem gNe2_str {a b : Str} : gNe2 (.str a) (.str b) = some (.bl (!decide (a = b))) := rfl
@[simp] theorem gNe2_int {d : D} : gNe2 (.int i) d = gNe (.int i) d := by unfold gNe2 orG; simp [gNeS]
@[simp] theorem gNe2_tup {ds : List D} {d : D} : gNe2 (.tup ds) d = gNe (.tup ds) d := by unfold gNe2 orG; simp [gNeS]
@[simp] theorem gNe2_lst {ds : List D} {d : D} : gNe2 (.lst ds) d = gNe (.lst ds) d := by unfold gNe2 orG; simp [gNeS]
@[simp] theorem gNe2_non {d : D} : gNe2 .non d = gNe .non d := by unfold gNe2 orG; simp [gNeS]
@[simp] theorem gNe2_bl {b : Bool} {d : D} : gNe2 (.bl b) d = gNe (.bl b) d := by unfold gNe2 orG; simp [gNeS]
theorem gFmt_str : gFmt (.str z) = if z.length ≤ LIM then some (.str z) else none := rfl
theorem gFmt_pos {i : Int} (h : -BDIV < i ∧ i < BDIV) : gFmt (.int i) = some (.str (Str.ofString (toString i))) := by
  show @ite (Option D) (-BDIV < i ∧ i < BDIV) (Classical.propDecidable _) (some (.str (Str.ofString (toString i)))) none = _
  rw [if_pos h]
end
end M

/-! M18: plain data (texts, whole numbers, None, tuples and lists of these): == is equality, in, repr -/
namespace M
open PySem PySem.Spec L2
mutual
def plD : D → Bool
  | .non | .int _ => true
  | .str s => PyData.strOk s
  | .tup ds | .lst ds => plDs ds
  | .bl _ | .sc _ | .dct _ | .ref _ => false
def plDs : List D → Bool
  | [] => true
  | d :: ds => plD d && plDs ds
end
mutual
def dpD : D → Nat
  | .tup ds | .lst ds => dpDs ds + 1
  | _ => 0
def dpDs : List D → Nat
  | [] => 0
  | d :: ds => max (dpD d) (dpDs ds)
end
/-! how long its text may be -/
mutual
def szD : D → Nat
  | .non | .bl _ => 5
  | .int i => if i.natAbs < 1000000000000000 then 16 else 1000001
  | .str s => 10 * s.length + 2
  | .tup ds | .lst ds => szDs ds + 2
  | _ => 0
def szDs : List D → Nat
  | [] => 0
  | d :: ds => szD d + 2 + szDs ds
end
mutual
theorem toPy_pl : ∀ d : D, plD d = true → ∃ p, toPy d = some p ∧ PyData.canLay0 p = true ∧ p.depth ≤ dpD d
  | .non, _ => ⟨_, rfl, rfl, by simp [PyData.depth]⟩
  | .int i, _ => ⟨_, rfl, rfl, by simp [PyData.depth]⟩
  | .str s, h => ⟨_, rfl, by simpa [PyData.canLay0, plD] using h, by simp [PyData.depth]⟩
  | .tup ds, h => by
    obtain ⟨ps, h1, h2, h3⟩ := toPys_pl ds (by simpa [plD] using h)
    exact ⟨.tuple ps, by simp [toPy, h1], by simpa [PyData.canLay0] using h2, by simp only [PyData.depth, dpD]; omega⟩
  | .lst ds, h => by
    obtain ⟨ps, h1, h2, h3⟩ := toPys_pl ds (by simpa [plD] using h)
    exact ⟨.list ps, by simp [toPy, h1], by simpa [PyData.canLay0] using h2, by simp only [PyData.depth, dpD]; omega⟩
  | .bl _, h => by simp [plD] at h
  | .sc _, h => by simp [plD] at h
  | .dct _, h => by simp [plD] at h
  | .ref _, h => by simp [plD] at h
theorem toPys_pl : ∀ ds : List D, plDs ds = true → ∃ ps, toPys ds = some ps ∧ PyData.canLayAll0 ps = true ∧ PyData.depthAll ps ≤ dpDs ds
  | [], _ => ⟨[], rfl, rfl, by simp [PyData.depthAll]⟩
  | d :: ds, h => by
    simp only [plDs, Bool.and_eq_true] at h
    obtain ⟨p, h1, h2, h3⟩ := toPy_pl d h.1
    obtain ⟨ps, k1, k2, k3⟩ := toPys_pl ds h.2
    exact ⟨p :: ps, by simp [toPys, h1, k1], by simp [PyData.canLayAll0, h2, k2], by simp only [PyData.depthAll, dpDs]; omega⟩
end
open Classical in
mutual
theorem eqv_pl : ∀ (d e : D) (p q : PyData), plD d = true → plD e = true → toPy d = some p → toPy e = some q → PyData.eqv p q = decide (d = e)
  | .non, e, p, q, _, h2, e1, e2 => by
    cases e1
    cases e <;> first
      | (simp [plD] at h2; done)
      | (cases e2; simp [PyData.eqv]; done)
      | (simp only [toPy, Option.map_eq_some_iff] at e2; obtain ⟨_, _, rfl⟩ := e2; simp [PyData.eqv])
  | .int i, e, p, q, _, h2, e1, e2 => by
    cases e1
    cases e <;> first
      | (simp [plD] at h2; done)
      | (cases e2; simp [PyData.eqv, Bool.beq_eq_decide_eq]; done)
      | (simp only [toPy, Option.map_eq_some_iff] at e2; obtain ⟨_, _, rfl⟩ := e2; simp [PyData.eqv])
  | .str s, e, p, q, _, h2, e1, e2 => by
    cases e1
    cases e <;> first
      | (simp [plD] at h2; done)
      | (cases e2; simp [PyData.eqv, Bool.beq_eq_decide_eq]; done)
      | (simp only [toPy, Option.map_eq_some_iff] at e2; obtain ⟨_, _, rfl⟩ := e2; simp [PyData.eqv])
  | .tup ds, e, p, q, h1, h2, e1, e2 => by
    simp only [toPy, Option.map_eq_some_iff] at e1
    obtain ⟨ps, e1, rfl⟩ := e1
    cases e with
    | tup es =>
      simp only [toPy, Option.map_eq_some_iff] at e2
      obtain ⟨qs, e2, rfl⟩ := e2
      simp only [PyData.eqv, D.tup.injEq]
      exact eqvs_pl ds es ps qs (by simpa [plD] using h1) (by simpa [plD] using h2) e1 e2
    | lst es =>
      simp only [toPy, Option.map_eq_some_iff] at e2
      obtain ⟨qs, e2, rfl⟩ := e2
      simp [PyData.eqv]
    | _ => first
      | (simp [plD] at h2; done)
      | (cases e2; simp [PyData.eqv]; done)
  | .lst ds, e, p, q, h1, h2, e1, e2 => by
    simp only [toPy, Option.map_eq_some_iff] at e1
    obtain ⟨ps, e1, rfl⟩ := e1
    cases e with
    | lst es =>
      simp only [toPy, Option.map_eq_some_iff] at e2
      obtain ⟨qs, e2, rfl⟩ := e2
      simp only [PyData.eqv, D.lst.injEq]
      exact eqvs_pl ds es ps qs (by simpa [plD] using h1) (by simpa [plD] using h2) e1 e2
    | tup es =>
      simp only [toPy, Option.map_eq_some_iff] at e2
      obtain ⟨qs, e2, rfl⟩ := e2
      simp [PyData.eqv]
    | _ => first
      | (simp [plD] at h2; done)
      | (cases e2; simp [PyData.eqv]; done)
  | .bl _, _, _, _, h, _, _, _ => by simp [plD] at h
  | .sc _, _, _, _, h, _, _, _ => by simp [plD] at h
  | .dct _, _, _, _, h, _, _, _ => by simp [plD] at h
  | .ref _, _, _, _, h, _, _, _ => by simp [plD] at h
theorem eqvs_pl : ∀ (ds es : List D) (ps qs : List PyData), plDs ds = true → plDs es = true → toPys ds = some ps → toPys es = some qs → PyData.eqvAll ps qs = decide (ds = es)
  | [], [], _, _, _, _, e1, e2 => by cases e1; cases e2; simp [PyData.eqvAll]
  | [], e :: es, _, _, _, _, e1, e2 => by
    cases e1
    simp only [toPys] at e2
    obtain ⟨q, _, e2⟩ := bind_some e2
    obtain ⟨qs', _, e2⟩ := bind_some e2
    cases e2
    simp [PyData.eqvAll]
  | d :: ds, [], _, _, _, _, e1, e2 => by
    cases e2
    simp only [toPys] at e1
    obtain ⟨q, _, e1⟩ := bind_some e1
    obtain ⟨qs', _, e1⟩ := bind_some e1
    cases e1
    simp [PyData.eqvAll]
  | d :: ds, e :: es, _, _, h1, h2, e1, e2 => by
    simp only [toPys] at e1 e2
    obtain ⟨p, a1, e1⟩ := bind_some e1
    obtain ⟨ps, a2, e1⟩ := bind_some e1
    obtain ⟨q, b1, e2⟩ := bind_some e2
    obtain ⟨qs, b2, e2⟩ := bind_some e2
    cases e1; cases e2
    simp only [plDs, Bool.and_eq_true] at h1 h2
    simp only [PyData.eqvAll]
    rw [eqv_pl d e p q h1.1 h2.1 a1 b1, eqvs_pl ds es ps qs h1.2 h2.2 a2 b2]
    by_cases a : d = e <;> by_cases b : ds = es <;> simp [a, b]
end
/-- plain and not deep -/
def PL (d : D) : Prop := plD d = true ∧ dpD d ≤ 60
theorem PL.shaped {d : D} (h : PL d) : ∃ p, toPy d = some p ∧ SeqAt.shaped p = true := by
  obtain ⟨p, h1, h2, h3⟩ := toPy_pl d h.1
  exact ⟨p, h1, by unfold SeqAt.shaped; rw [h2, decide_eq_true (by have := h.2; omega)]; rfl⟩
open Classical in
theorem eqD_pl {d e : D} (h1 : PL d) (h2 : PL e) : eqD d e = some (decide (d = e)) := by
  obtain ⟨p, a1, a2⟩ := h1.shaped
  obtain ⟨q, b1, b2⟩ := h2.shaped
  unfold eqD
  rw [a1, b1]
  show (if _ then _ else _) = _
  rw [if_pos ⟨a2, b2⟩, eqv_pl d e p q h1.1 h2.1 a1 b1]
open Classical in
theorem gEq_pl {d e : D} (h1 : PL d) (h2 : PL e) : gEq d e = some (.bl (decide (d = e))) := by
  rw [gEq_ap, eqD_pl h1 h2]; rfl
open Classical in
theorem gNe_pl {d e : D} (h1 : PL d) (h2 : PL e) : gNe d e = some (.bl (!decide (d = e))) := by
  rw [gNe_ap, eqD_pl h1 h2]; rfl
open Classical in
theorem gEq2_pl {d e : D} (h1 : PL d) (h2 : PL e) : gEq2 d e = some (.bl (decide (d = e))) := by
  have h := gEq_pl h1 h2
  unfold gEq2 orG
  cases d <;> first
    | (rw [h]; rfl)
    | (cases e <;> first
      | (rw [h]; rfl)
      | (simp [gEqS]))
open Classical in
theorem gNe2_pl {d e : D} (h1 : PL d) (h2 : PL e) : gNe2 d e = some (.bl (!decide (d = e))) := by
  have h := gNe_pl h1 h2
  unfold gNe2 orG
  cases d <;> first
    | (rw [h]; rfl)
    | (cases e <;> first
      | (rw [h]; rfl)
      | (simp [gNeS]))
theorem plDs_all {ds : List D} : plDs ds = true ↔ ∀ d ∈ ds, plD d = true := by
  induction ds with
  | nil => simp [plDs]
  | cons d ds ih => simp [plDs, ih]
theorem dpDs_le {ds : List D} {n : Nat} : dpDs ds ≤ n ↔ ∀ d ∈ ds, dpD d ≤ n := by
  induction ds with
  | nil => simp [dpDs]
  | cons d ds ih =>
    simp only [dpDs, List.mem_cons, forall_eq_or_imp, ← ih]
    omega
/-! plain with a bound for the depth -/
def Pl (n : Nat) (d : D) : Prop := plD d = true ∧ dpD d ≤ n
theorem Pl.pl {n : Nat} {d : D} (h : Pl n d) (hn : n ≤ 60 := by decide) : PL d := ⟨h.1, by have := h.2; omega⟩
theorem Pl.mono {n k : Nat} {d : D} (h : Pl n d) (hn : n ≤ k) : Pl k d := ⟨h.1, by have := h.2; omega⟩
theorem pl_non {n : Nat} : Pl n .non := ⟨rfl, Nat.zero_le _⟩
theorem pl_int {n : Nat} {i : Int} : Pl n (.int i) := ⟨rfl, Nat.zero_le _⟩
theorem pl_str {n : Nat} {s : Str} (h : PyData.strOk s = true) : Pl n (.str s) := ⟨by simpa [plD] using h, Nat.zero_le _⟩
theorem pl_tup {n : Nat} {ds : List D} (h : ∀ d ∈ ds, Pl n d) : Pl (n + 1) (.tup ds) := ⟨by simp only [plD]; exact plDs_all.mpr fun d hd => (h d hd).1, by simp only [dpD]; have := dpDs_le.mpr fun d hd => (h d hd).2; omega⟩
theorem pl_lst {n : Nat} {ds : List D} (h : ∀ d ∈ ds, Pl n d) : Pl (n + 1) (.lst ds) := ⟨by simp only [plD]; exact plDs_all.mpr fun d hd => (h d hd).1, by simp only [dpD]; have := dpDs_le.mpr fun d hd => (h d hd).2; omega⟩
theorem pls_nil {n : Nat} : ∀ d ∈ ([] : List D), Pl n d := by simp
theorem pls_cons {n : Nat} {d : D} {ds : List D} (h : Pl n d) (t : ∀ d ∈ ds, Pl n d) : ∀ e ∈ d :: ds, Pl n e := fun e he => by
  rcases List.mem_cons.mp he with rfl | he
  · exact h
  · exact t e he
/-! repr -/
mutual
theorem show_pl : ∀ (d : D) (p : PyData), plD d = true → szD d ≤ 1000000 → toPy d = some p → p.showable = true ∧ p.hasDict = false ∧ szP p ≤ szD d
  | .non, p, _, _, e => by cases e; simp [PyData.showable, PyData.hasDict, szP, szD]
  | .int i, p, _, h, e => by
    cases e
    simp only [szD] at h
    split at h
    · rename_i c
      simp only [PyData.showable, PyData.hasDict, szP, szD, if_pos c, decide_eq_true_eq, true_and, Nat.le_refl, and_true]
      by_cases z : i.natAbs = 0
      · rw [z]; decide
      · have : i.natAbs.log2 < 50 := (Nat.log2_lt z).mpr (Nat.lt_of_lt_of_le c (by decide))
        omega
    · omega
  | .str s, p, h, _, e => by
    cases e
    simp only [PyData.showable, PyData.hasDict, szP, szD, true_and]
    refine StrLaws.reprText_len s fun c hc => ?_
    simp only [plD, PyData.strOk] at h
    rw [Array.all_eq_true_iff_forall_mem] at h
    have := h c (by simpa using hc)
    simp at this
    omega
  | .tup ds, p, h, hs, e => by
    simp only [toPy, Option.map_eq_some_iff] at e
    obtain ⟨ps, e, rfl⟩ := e
    simp only [szD] at hs
    obtain ⟨h1, h2, h3⟩ := shows_pl ds ps (by simpa [plD] using h) (by omega) e
    simp only [PyData.showable, PyData.hasDict, szP, szD]
    exact ⟨h1, h2, by omega⟩
  | .lst ds, p, h, hs, e => by
    simp only [toPy, Option.map_eq_some_iff] at e
    obtain ⟨ps, e, rfl⟩ := e
    simp only [szD] at hs
    obtain ⟨h1, h2, h3⟩ := shows_pl ds ps (by simpa [plD] using h) (by omega) e
    simp only [PyData.showable, PyData.hasDict, szP, szD]
    exact ⟨h1, h2, by omega⟩
  | .bl _, _, h, _, _ => by simp [plD] at h
  | .sc _, _, h, _, _ => by simp [plD] at h
  | .dct _, _, h, _, _ => by simp [plD] at h
  | .ref _, _, h, _, _ => by simp [plD] at h
theorem shows_pl : ∀ (ds : List D) (ps : List PyData), plDs ds = true → szDs ds ≤ 1000000 → toPys ds = some ps → PyData.showableAll ps = true ∧ PyData.hasDictAll ps = false ∧ szPs ps ≤ szDs ds
  | [], ps, _, _, e => by cases e; simp [PyData.showableAll, PyData.hasDictAll, szPs, szDs]
  | d :: ds, ps, h, hs, e => by
    simp only [toPys] at e
    obtain ⟨p, a1, e⟩ := bind_some e
    obtain ⟨qs, a2, e⟩ := bind_some e
    cases e
    simp only [plDs, Bool.and_eq_true] at h
    simp only [szDs] at hs
    obtain ⟨h1, h2, h3⟩ := show_pl d p h.1 (by omega) a1
    obtain ⟨k1, k2, k3⟩ := shows_pl ds qs h.2 (by omega) a2
    simp only [PyData.showableAll, PyData.hasDictAll, szPs, szDs, h1, h2, k1, k2, Bool.and_self, Bool.or_self, true_and]
    omega
end
theorem repr_lst {ds : List D} (h : PL (.lst ds)) (hs : szD (.lst ds) ≤ 1000000) : ∃ z, gRepr (.lst ds) = some (.str z) := by
  obtain ⟨p, h1, h2, h3⟩ := toPy_pl _ h.1
  obtain ⟨k1, k2, k3⟩ := show_pl _ p h.1 hs h1
  have k4 : isSeqP p = true := by
    simp only [toPy, Option.map_eq_some_iff] at h1
    obtain ⟨_, _, rfl⟩ := h1; rfl
  refine ⟨p.shown, ?_⟩
  unfold gRepr
  rw [h1]
  show (if _ then _ else _) = _
  have h60 := h.2
  rw [if_pos ⟨k1, k2, by omega, by unfold LIM; omega, k4⟩]
theorem szDs_le {ds : List D} {n : Nat} (h : ∀ d ∈ ds, szD d ≤ n) : szDs ds ≤ ds.length * (n + 2) := by
  induction ds with
  | nil => simp [szDs]
  | cons d ds ih =>
    have h1 := h d (by simp)
    have h2 := ih fun e he => h e (List.mem_cons_of_mem _ he)
    simp only [szDs, List.length_cons, Nat.succ_mul]
    omega
/-! in -/
open Classical in
theorem any_pl {d : D} {p : PyData} (hd : plD d = true) (ep : toPy d = some p) : ∀ (ds : List D) (ps : List PyData), plDs ds = true → toPys ds = some ps → (ps.any fun z => PyData.eqv z p) = decide (d ∈ ds)
  | [], ps, _, e => by cases e; simp
  | x :: ds, ps, h, e => by
    simp only [toPys] at e
    obtain ⟨q, a1, e⟩ := bind_some e
    obtain ⟨qs, a2, e⟩ := bind_some e
    cases e
    simp only [plDs, Bool.and_eq_true] at h
    rw [List.any_cons, any_pl hd ep ds qs h.2 a2, eqv_pl x d q p h.1 hd a1 ep]
    by_cases a : d = x
    · subst a; simp
    · have : ¬ x = d := fun z => a z.symm
      simp [a, this]
open Classical in
theorem gIn3_plL {neg : Bool} {d : D} {ds : List D} (h1 : PL d) (h2 : PL (.lst ds)) : gIn3 neg d (.lst ds) = some (.bl (xor neg (decide (d ∈ ds)))) := by
  obtain ⟨p, a1, a2⟩ := h1.shaped
  obtain ⟨q, b1, b2⟩ := h2.shaped
  simp only [toPy, Option.map_eq_some_iff] at b1
  obtain ⟨ps, b1, rfl⟩ := b1
  have hd : plDs ds = true := by have := h2.1; simpa [plD] using this
  unfold gIn3 gIn gInL
  simp only [a1, b1, Option.bind_some]
  rw [if_pos ⟨a2, b2⟩, any_pl h1.1 a1 ds ps hd b1]
  cases neg <;> simp
open Classical in
theorem gIn3_plT {neg : Bool} {d : D} {ds : List D} (h1 : PL d) (hf : flatD d = true) (h2 : plDs ds = true) (h3 : ds.all flatD = true) : gIn3 neg d (.tup ds) = some (.bl (xor neg (decide (d ∈ ds)))) := by
  have key : (ds.any fun y => eqF y d) = decide (d ∈ ds) := by
    induction ds with
    | nil => simp
    | cons x ds ih =>
      simp only [plDs, Bool.and_eq_true] at h2
      simp only [List.all_cons, Bool.and_eq_true] at h3
      obtain ⟨p, a1, _⟩ := toPy_pl x h2.1
      obtain ⟨q, b1, _⟩ := toPy_pl d h1.1
      rw [List.any_cons, ih h2.2 h3.2]
      have : eqF x d = decide (x = d) := by unfold eqF; rw [a1, b1]; exact eqv_pl x d p q h2.1 h1.1 a1 b1
      rw [this]
      by_cases a : d = x
      · subst a; simp
      · have : ¬ x = d := fun z => a z.symm
        simp [a, this]
  unfold gIn3 gIn gInL gInT
  simp only [Option.none_or]
  rw [if_pos ⟨hf, h3⟩, key]
  cases neg <;> simp
theorem gIn3_memL {neg : Bool} {d : D} {ds : List D} (h1 : PL d) (h2 : PL (.lst ds)) (h : d ∈ ds) : gIn3 neg d (.lst ds) = some (.bl (!neg)) := by
  rw [gIn3_plL h1 h2]; simp [h]
theorem gIn3_notL {neg : Bool} {d : D} {ds : List D} (h1 : PL d) (h2 : PL (.lst ds)) (h : ¬ d ∈ ds) : gIn3 neg d (.lst ds) = some (.bl neg) := by
  rw [gIn3_plL h1 h2]; simp [h]
/-! rows -/
@[simp] theorem eExt_ap {i : Nat} {f : EF} {S : Ms} : eExt i f S = if isL i S then (f S).bind fun p => match p.1 with
  | .lst es => (modL i (fun ds => if ds.length + es.length < LIM then some (ds ++ es) else none) p.2).bind fun S' => some (.non, S')
  | _ => none else none := rfl
@[simp] theorem strsD_nil : strsD [] = some [] := rfl
@[simp] theorem strsD_cons {z : Str} {ds : List D} : strsD (.str z :: ds) = (strsD ds).map (z :: ·) := rfl
end M

/-! M19: exceptions: what may leave a statement or a call, raise, try -/
namespace M
open PySem PySem.Spec L2 PyProof.Rows
/-- an exception: its class by number, what its row is -/
structure Ex where
  i : Nat
  r : Option D
inductive Fx where
  | fl (f : Fl) | ex (e : Ex)
abbrev XF := Ms → Option (Fx × Ms)
abbrev XEF := Ms → Option ((D ⊕ Ex) × Ms)
abbrev FX := List D → List Cell → Option ((D ⊕ Ex) × List Cell)
def exR (K : PySem.W.Frag) (ca : Nat → Addr) (W : Wd) (e : Ex) (cls : Value) (d : Option Addr) : Prop := cls = .ref (ca e.i) ∧ match e.r with
  | none => d = none
  | some x => ∃ (dd : Addr) (v : V), d = some dd ∧ W.H dd = some (.xd [("row", v)]) ∧ RV K W.F W.io v x
def flQx (K : PySem.W.Frag) (ca : Nat → Addr) (D : Ends) (W : WX) (s : L2.St) (V : Wd) : Fx → Prop
  | .fl f => flQ K D s V f
  | .ex e => ∀ cls d, exR K ca V e cls d → W cls d s V.H
def tX (K : PySem.W.Frag) (ca : Nat → Addr) (W : WX) (f : XF) : TS := fun D s H => ∃ S fl S' V, V.H = H ∧ Rel K V S s ∧ f S = some (fl, S') ∧ ∀ V' s', Rel K V' S' s' → Fr V S.r s V' S'.r s' → flQx K ca D W s' V' fl
def teX (K : PySem.W.Frag) (ca : Nat → Addr) (W : WX) (f : XEF) : TE := fun s H Q => ∃ S r S' V, V.H = H ∧ Rel K V S s ∧ f S = some (r, S') ∧ ∀ V', Rel K V' S' s → Fr V S.r s V' S'.r s → match r with
  | .inl d => ∀ v, RV K V'.F V'.io v d → Q v V'.H
  | .inr e => ∀ cls d, exR K ca V' e cls d → W cls d s V'.H
def MSx (X : Cx) (ca : Nat → Addr) (st : Stmt) (f : XF) : Prop := ∀ W, Takes X W → PassesOwn (model X.prog X.w) X.A X.env X.xe → PS X st (tX X.K ca W f)
def MSsx (X : Cx) (ca : Nat → Addr) (st : List Stmt) (f : XF) : Prop := ∀ W, Takes X W → PassesOwn (model X.prog X.w) X.A X.env X.xe → PSs X st (tX X.K ca W f)
def MEx (X : Cx) (ca : Nat → Addr) (e : Expr) (f : XEF) : Prop := ∀ W, Takes X W → PE X e (teX X.K ca W f)
theorem pImp {X : Cx} {st : Stmt} {t t' : TS} (h : PS X st t) (i : ∀ D σ H, t' D σ H → t D σ H) : PS X st t' := ⟨fun pins s σ H D I q => h.run pins s σ H D I (i D σ H q)⟩
theorem psImp {X : Cx} {st : List Stmt} {t t' : TS} (h : PSs X st t) (i : ∀ D σ H, t' D σ H → t D σ H) : PSs X st t' := ⟨fun pins s σ H D I q => h.run pins s σ H D I (i D σ H q)⟩
theorem peImp {X : Cx} {e : Expr} {t t' : TE} (h : PE X e t) (i : ∀ σ H Q, t' σ H Q → t σ H Q) : PE X e t' := ⟨fun pins s σ H Q I q => h.run pins s σ H Q I (i σ H Q q)⟩
def xL (f : SF) : XF := fun S => (f S).bind fun p => some (.fl p.1, p.2)
def xNil : XF := fun S => some (.fl .nx, S)
def xSeq (f g : XF) : XF := fun S => (f S).bind fun p => match p.1 with
  | .fl .nx => g p.2
  | x => some (x, p.2)
def xIf (c : BF) (f g : XF) : XF := fun S => (c S).bind fun p => if p.1 then f p.2 else g p.2
def xForM (g : GF) (b : XF) : List D → Ms → Option (Fx × Ms)
  | [], S => some (.fl .nx, S)
  | d :: ds, S => (g d S).bind fun S1 => (b S1).bind fun p => match p.1 with
    | .fl .nx => xForM g b ds p.2
    | .fl .ct => xForM g b ds p.2
    | .fl .bk => some (.fl .nx, p.2)
    | x => some (x, p.2)
def xFor (f : AF) (g : GF) (b : XF) : XF := fun S => (f S).bind fun p => xForM g b p.1 p.2
def xWhileM (c : BF) (b : XF) : Nat → Ms → Option (Fx × Ms)
  | 0, _ => none
  | n + 1, S => (c S).bind fun p => if p.1 then (b p.2).bind fun q => match q.1 with
      | .fl .nx => xWhileM c b n q.2
      | .fl .ct => xWhileM c b n q.2
      | .fl .bk => some (.fl .nx, q.2)
      | x => some (x, q.2)
    else some (.fl .nx, p.2)
def xWhile (c : BF) (b : XF) : XF := xWhileM c b WMAX
def xAsg (f : XEF) (g : GF) : XF := fun S => (f S).bind fun p => match p.1 with
  | .inl d => (g d p.2).bind fun S' => some (.fl .nx, S')
  | .inr e => some (.ex e, p.2)
def xExpr (f : XEF) : XF := fun S => (f S).bind fun p => match p.1 with
  | .inl _ => some (.fl .nx, p.2)
  | .inr e => some (.ex e, p.2)
def xRet (f : XEF) : XF := fun S => (f S).bind fun p => match p.1 with
  | .inl d => some (.fl (.rt d), p.2)
  | .inr e => some (.ex e, p.2)
def xeL (f : EF) : XEF := fun S => (f S).bind fun p => some (.inl p.1, p.2)
section
variable {X : Cx} {ca : Nat → Addr} {st : Stmt} {rest a b : List Stmt} {f g : XF} {fs : SF} {e c tg it : Expr} {fe : XEF} {fc : BF} {fi : AF} {gf : GF} {pos : Pos}
theorem msx_lift (h : MS X st fs) : MSx X ca st (xL fs) := fun W _ _ => by
  obtain ⟨t, p, q⟩ := h
  refine pImp p fun D σ H ⟨S, fl, S', V, eV, R, ef, k⟩ => ?_
  subst eV
  obtain ⟨⟨fl1, S1⟩, e1, ef⟩ := bind_some ef
  cases ef
  exact q S fl1 S1 e1 V σ D R fun V' s' R' f' => k V' s' R' f'
theorem mssx_nil : MSsx X ca [] xNil := fun W _ _ => psImp pss_nil fun D σ H ⟨S, fl, S', V, eV, R, ef, k⟩ => by
  subst eV
  cases ef
  exact k V σ R .refl
theorem mssx_one (h : MSx X ca st f) : MSsx X ca [st] f := fun W tk hp => pss_one (h W tk hp)
theorem mssx_cons (h1 : MSx X ca st f) (h2 : MSsx X ca rest g) : MSsx X ca (st :: rest) (xSeq f g) := fun W tk hp => psImp (pss_cons (h1 W tk hp) (h2 W tk hp)) fun D σ H ⟨S, fl, S', V, eV, R, ef, k⟩ => by
  subst eV
  obtain ⟨⟨fl1, S1⟩, e1, ef⟩ := bind_some ef
  refine ⟨S, fl1, S1, V, rfl, R, e1, fun V1 s1 R1 f1 => ?_⟩
  cases fl1 with
  | fl x =>
    cases x with
    | nx => exact ⟨S1, fl, S', V1, rfl, R1, ef, fun V2 s2 R2 f2 => k V2 s2 R2 (f1.trans f2)⟩
    | bk => cases ef; exact k V1 s1 R1 f1
    | ct => cases ef; exact k V1 s1 R1 f1
    | rt d => cases ef; exact k V1 s1 R1 f1
  | ex e => cases ef; exact k V1 s1 R1 f1
theorem msx_if (hc : MT X c fc) (ha : MSsx X ca a f) (hb : MSsx X ca b g) : MSx X ca (.If c a b pos) (xIf fc f g) := fun W tk hp => by
  obtain ⟨t, p, q⟩ := hc
  refine pImp (ps_if p (ha W tk hp) (hb W tk hp)) fun D σ H ⟨S, fl, S', V, eV, R, ef, k⟩ => ?_
  subst eV
  obtain ⟨⟨c, S1⟩, e1, ef⟩ := bind_some ef
  refine q S _ _ e1 V σ _ R fun V1 R1 f1 => ?_
  cases c with
  | true => exact ⟨S1, fl, S', V1, rfl, R1, ef, fun V2 s2 R2 f2 => k V2 s2 R2 (f1.trans f2)⟩
  | false => exact ⟨S1, fl, S', V1, rfl, R1, ef, fun V2 s2 R2 f2 => k V2 s2 R2 (f1.trans f2)⟩
theorem msx_for (hc : X.calm = true) (hi : MI X tg it fi) (hg : MG X tg gf) (hb : MSsx X ca a f) (hs : ∀ x, foldedSetIterable it X.env x = pure x := by intro _; rfl) : MSx X ca (.For tg it a [] pos) (xFor fi gf f) := fun W tk hp => by
  obtain ⟨wi, pi, qi⟩ := hi
  obtain ⟨tgt, pg, qg⟩ := hg
  refine pImp (ps_for hp hc pi pg (hb W tk hp) hs) fun D σ H ⟨S, fl, S', V, eV, R, ef, k⟩ => ?_
  subst eV
  obtain ⟨⟨ds, S1⟩, e1, h⟩ := bind_some ef
  refine qi S ds S1 e1 V σ _ R fun J W1 R1 f1 Y => ?_
  refine ⟨fun i m s2 H2 => m = ds.length - i ∧ i ≤ ds.length ∧ ∃ W2 S2, W2.H = H2 ∧ Rel X.K W2 S2 s2 ∧ Fr W1 S1.r σ W2 S2.r s2 ∧ xForM gf f (ds.drop i) S2 = some (fl, S'), ⟨ds.length, rfl, Nat.zero_le _, W1, S1, rfl, R1, .refl, h⟩, ?_⟩
  rintro i m s2 H2 ⟨rfl, hi, W2, S2, rfl, R2, f2, e2⟩
  by_cases hlt : i < ds.length
  · have ed : ds[i]? = some ds[i] := List.getElem?_eq_getElem hlt
    obtain ⟨go, yl⟩ := Y.go W2 S2 s2 R2 f2.fx f2.ix i _ ed
    rw [List.drop_eq_getElem_cons hlt] at e2
    obtain ⟨S3, e3, e2⟩ := bind_some e2
    obtain ⟨⟨fl1, S4⟩, e4, e2⟩ := bind_some e2
    refine .inr ⟨go, fun s3 H3 => i + 1 ≤ ds.length ∧ ∃ W3 S3, W3.H = H3 ∧ Rel X.K W3 S3 s3 ∧ Fr W1 S1.r σ W3 S3.r s3 ∧ xForM gf f (ds.drop (i + 1)) S3 = some (fl, S'), ?_, fun x H' y => ?_⟩
    · rintro s3 H3 ⟨hl, W3, S3, rfl, R3, f3, e5⟩
      exact ⟨_, by omega, rfl, hl, W3, S3, rfl, R3, f3, e5⟩
    · obtain ⟨W3, rfl, R3, f3, r3⟩ := yl x H' y
      refine qg _ S2 S3 e3 W3 s2 x _ R3 r3 fun W4 s4 R4 f4 => ?_
      refine ⟨S3, fl1, S4, W4, rfl, R4, e4, fun W5 s5 R5 f5 => ?_⟩
      have ff := ((f2.trans f3).trans f4).trans f5
      cases fl1 with
      | fl x =>
        cases x with
        | nx => exact ⟨hlt, W5, S4, rfl, R5, ff, e2⟩
        | ct => exact ⟨hlt, W5, S4, rfl, R5, ff, e2⟩
        | bk => cases e2; exact k W5 s5 R5 (f1.trans ff)
        | rt d => cases e2; exact k W5 s5 R5 (f1.trans ff)
      | ex e => cases e2; exact k W5 s5 R5 (f1.trans ff)
  · have ei : i = ds.length := by omega
    subst ei
    rw [List.drop_length] at e2
    cases e2
    exact .inl ⟨Y.stop W2 _ s2 R2 f2.fx f2.ix, k W2 s2 R2 (f1.trans f2)⟩
theorem msx_while (hc : MT X c fc) (hb : MSsx X ca a f) : MSx X ca (.While c a [] pos) (xWhile fc f) := fun W tk hp => by
  obtain ⟨tc, pc, qc⟩ := hc
  refine pImp (ps_while hp pc (hb W tk hp)) fun D σ H ⟨S, fl, S', V, eV, R, ef, k⟩ => ?_
  subst eV
  refine ⟨fun m s2 H2 => ∃ W2 S2, W2.H = H2 ∧ Rel X.K W2 S2 s2 ∧ Fr V S.r σ W2 S2.r s2 ∧ xWhileM fc f m S2 = some (fl, S'), ⟨WMAX, V, S, rfl, R, .refl, ef⟩, ?_⟩
  rintro m s2 H2 ⟨W2, S2, rfl, R2, f2, e2⟩
  cases m with
  | zero => cases e2
  | succ n =>
    obtain ⟨⟨b, S3⟩, e3, e2⟩ := bind_some e2
    refine qc S2 _ _ e3 W2 s2 _ R2 fun W3 R3 f3 => ?_
    cases b with
    | true =>
      obtain ⟨⟨fl1, S4⟩, e4, e2⟩ := bind_some e2
      refine ⟨fun s4 H4 => ∃ W2 S2, W2.H = H4 ∧ Rel X.K W2 S2 s4 ∧ Fr V S.r σ W2 S2.r s4 ∧ xWhileM fc f n S2 = some (fl, S'), fun s4 H4 z => ⟨n, Nat.lt_succ_self n, z⟩, ?_⟩
      refine ⟨S3, fl1, S4, W3, rfl, R3, e4, fun W5 s5 R5 f5 => ?_⟩
      have ff := (f2.trans f3).trans f5
      cases fl1 with
      | fl x =>
        cases x with
        | nx => exact ⟨W5, S4, rfl, R5, ff, e2⟩
        | ct => exact ⟨W5, S4, rfl, R5, ff, e2⟩
        | bk => cases e2; exact k W5 s5 R5 ff
        | rt d => cases e2; exact k W5 s5 R5 ff
      | ex e => cases e2; exact k W5 s5 R5 ff
    | false => cases e2; exact k W3 s2 R3 (f2.trans f3)
theorem mex_lift {fe : EF} (h : ME X e fe) : MEx X ca e (xeL fe) := fun W _ => by
  obtain ⟨t, p, q⟩ := h
  refine peImp p fun σ H Q ⟨S, r, S', V, eV, R, ef, k⟩ => ?_
  subst eV
  obtain ⟨⟨d1, S1⟩, e1, ef⟩ := bind_some ef
  cases ef
  exact q S d1 S1 e1 V σ Q R fun v V' R' f' rv => k V' R' f' v rv
theorem msx_expr (he : MEx X ca e fe) (hs : swapsWith e none pos.line X.env = pure false := by rfl) : MSx X ca (.Expr e pos) (xExpr fe) := fun W tk hp => pImp (ps_expr (he W tk) hs) fun D σ H ⟨S, fl, S', V, eV, R, ef, k⟩ => by
  subst eV
  obtain ⟨⟨r, S1⟩, e1, ef⟩ := bind_some ef
  refine ⟨S, r, S1, V, rfl, R, e1, fun V1 R1 f1 => ?_⟩
  cases r with
  | inl d => cases ef; exact fun v _ => k V1 σ R1 f1
  | inr e => cases ef; exact k V1 σ R1 f1
theorem msx_ret (he : MEx X ca e fe) : MSx X ca (.Return (some e) pos) (xRet fe) := fun W tk hp => pImp (ps_ret (he W tk)) fun D σ H ⟨S, fl, S', V, eV, R, ef, k⟩ => by
  subst eV
  obtain ⟨⟨r, S1⟩, e1, ef⟩ := bind_some ef
  refine ⟨S, r, S1, V, rfl, R, e1, fun V1 R1 f1 => ?_⟩
  cases r with
  | inl d => cases ef; exact fun v rv => k V1 σ R1 f1 v rv
  | inr e => cases ef; exact k V1 σ R1 f1
theorem msx_asg (he : MEx X ca e fe) (hg : MG X tg gf) (hs : swapsWithSole [tg] e pos.line X.env = pure false := by rfl) (hw : swappedStores [tg] e X.env = pure none := by rfl)
    (h1 : (assignEach [tg] X.env).map (·.2) = [assign tg X.env] := by rfl) : MSx X ca (.Assign [tg] e pos) (xAsg fe gf) := fun W tk hp => by
  obtain ⟨tgt, pg, qg⟩ := hg
  refine pImp (ps_asg (he W tk) pg hs hw h1) fun D σ H ⟨S, fl, S', V, eV, R, ef, k⟩ => ?_
  subst eV
  obtain ⟨⟨r, S1⟩, e1, ef⟩ := bind_some ef
  refine ⟨S, r, S1, V, rfl, R, e1, fun V1 R1 f1 => ?_⟩
  cases r with
  | inl d =>
    obtain ⟨S2, e2, ef⟩ := bind_some ef
    cases ef
    exact fun v rv => qg d S1 _ e2 V1 σ v _ R1 rv fun V2 s2 R2 f2 => k V2 s2 R2 (f1.trans f2)
  | inr e => cases ef; exact k V1 σ R1 f1
theorem msx_set {x : Str} {xp : Pos} (i : Nat) (hN : X.N.Nodup) (he : MEx X ca e fe) (hi : X.N[i]? = some x := by rfl) (hx : Loc X.env.scope x := by first | exact Or.inl rfl | exact Or.inr rfl) (hs : swapsWith e (some (.Name x xp)) pos.line X.env = pure false := by rfl)
    (hf : X.fn x = true ∨ X.env.scope.names.lookup x = some .local := by first | exact .inl rfl | exact .inr rfl | assumption) : MSx X ca (.Assign [.Name x xp] e pos) (xAsg fe (gNm i)) := fun W tk hp => by
  refine pImp (ps_set hN hi hx (he W tk) hs hf) fun D σ H ⟨S, fl, S', V, eV, R, ef, k⟩ => ?_
  subst eV
  obtain ⟨⟨r, S1⟩, e1, ef⟩ := bind_some ef
  refine ⟨S, r, S1, V, rfl, R, e1, fun V1 R1 f1 => ?_⟩
  cases r with
  | inl d =>
    cases ef
    exact fun v rv => let ⟨R2, f2⟩ := R1.setVal (i := i) rv; k V1 _ R2 (f1.trans f2)
  | inr e => cases ef; exact k V1 σ R1 f1
end
/-! ### defs that may raise -/
def spX (K : PySem.W.Frag) (ca : Nat → Addr) (n : Nat) (ff : FX) : Sp := fun vs H Q E => vs.length = n ∧ ∃ V ds m r m', V.H = H ∧ Rel K V ⟨[], m⟩ [] ∧ RVs K V.F V.io vs ds ∧ ff ds m = some (r, m') ∧ match r with
  | .inl d => ∀ v V', Rel K V' ⟨[], m'⟩ [] → Fr V [] [] V' [] [] → RV K V'.F V'.io v d → Q v V'.H
  | .inr e => ∀ V' cls d, Rel K V' ⟨[], m'⟩ [] → Fr V [] [] V' [] [] → exR K ca V' e cls d → E cls d V'.H
def fnX (N : Nat) (b : XF) : FX := fun ds m => (b ⟨ds.map Slot.val ++ List.replicate (N - ds.length) .emp, m⟩).bind fun p => match p.1 with
  | .fl (.rt d) => some (.inl d, p.2.m)
  | .fl .nx => some (.inl .non, p.2.m)
  | .ex e => some (.inr e, p.2.m)
  | _ => none
def xFn (n : Nat) (ff : FX) (fa : AF) : XEF := fun S => (fa S).bind fun p => if p.1.length = n then (ff p.1 p.2.m).bind fun q => some (q.1, { p.2 with m := q.2 }) else none
section
variable {P : Program} {w : World} {K : PySem.W.Frag} {mg : Str → Option Value} {base : Heap} {ca : Nat → Addr}
theorem fnx_ok {x qual : Str} {st : Stmt} {f : Addr} {fd : FuncData} {N ps : List Str} {k : Nat} {b : XF} (F : Fun K x qual st f fd) (S : FnScope N ps (defScope st))
    (hb : ∀ (cdv : Value) (A : Around) (outer : List Env) (s : Shared) (H : Hp) (E : XK), Room k (A.deeper (PyProof.Rows.envOfC qual (defScope st) s.heap.objs.size f cdv)) →
      MSsx (cxOf (L2.CX P w) P w K mg base N qual (defScope st) f cdv A outer s H E) ca (defBody st) b) : FnOk P w K mg base (L2.CX P w) (k + 1) f fd ps (spX K ca ps.length (fnX N.length b)) := by
  refine F.okX S (fun vs H Q E h => h.1) (fun cdv A outer s H vs Q E hr h => ?_)
  obtain ⟨hl, V, ds, m, r, m', rfl, R, rr, e, kk⟩ := h
  refine ⟨_, hb cdv A outer s V.H E hr (fun cls d _ H => E cls d H) (takes_of rfl rfl rfl rfl) (passes_of rfl), ?_⟩
  unfold fnX at e
  obtain ⟨⟨fl, S'⟩, e1, e⟩ := bind_some e
  have own : ∀ b, ¬ Own (ds.map Slot.val ++ List.replicate (N.length - ds.length) Slot.emp) (L2.start N vs) b := fun b ⟨i, c, h, _⟩ => by
    have := List.mem_of_getElem? h
    simp at this
  refine ⟨_, fl, S', V, rfl, start_rel (n := 0) R rr, e1, fun V' s' R' f' => ?_⟩
  have f0 := end_fr (S0 := ⟨ds.map Slot.val ++ List.replicate (N.length - ds.length) Slot.emp, m⟩) own f'
  cases fl with
  | fl x =>
    cases x with
    | nx => cases e; exact kk .non V' R'.bare f0 .non
    | rt d => cases e; exact fun v rv => kk v V' R'.bare f0 rv
    | bk => cases e
    | ct => cases e
  | ex e0 => cases e; exact fun cls d hx => kk V' cls d R'.bare f0 hx
end
section
variable {X : Cx} {ca : Nat → Addr} {k n : Nat} {f : Addr} {fd : FuncData} {ps : List Str} {ff : FX} {x : Str} {p pos : Pos} {e : Expr} {es : List Expr} {fa : AF}
theorem mex_fn (G : FnOk X.prog X.w X.K X.mg X.base (L2.CX X.prog X.w) k f fd ps (spX X.K ca n ff)) (hr : Room k X.A) (hm : X.mg x = some (.ref f)) (hk : PySem.W.keepIn X.K (.ref f) = true) (hb : Binds X.K fd ps []) (ha : MA X (e :: es) fa)
    (hg : Gl X x := by rfl) (hdb : (x == ("__debug__" : Str)) = false := by decide) (he : starEach (e :: es) X.env = (false, eval e X.env) :: starEach es X.env := by rfl) (hpl : (backTo pos (starEach es X.env)).any (·.1) = false := by rfl) :
    MEx X ca (.Call (.Name x p) (e :: es) [] pos) (xFn n ff fa) := fun W tk => by
  obtain ⟨t, pt, q⟩ := ha
  refine peImp (pe_callS G hr hg hm hk hb (fun σ => passAt tk σ) pt hdb he hpl) fun σ H Q ⟨S, r, S', V, eV, R, ef, kk⟩ => ?_
  subst eV
  obtain ⟨⟨ds, S1⟩, e1, ef⟩ := bind_some ef
  simp only at ef
  split at ef
  · rename_i hn
    obtain ⟨⟨r1, m1⟩, e2, ef⟩ := bind_some ef
    cases ef
    refine q S _ _ e1 V σ _ R fun vs V1 R1 f1 rv => ?_
    refine ⟨by rw [rv.length]; exact hn, V1, ds, S1.m, r1, m1, rfl, R1.bare, rv, e2, ?_⟩
    cases r1 with
    | inl d => exact fun v V2 R2 f2 r2 => let ⟨R3, f3⟩ := R1.back R2 f2; kk V2 R3 (f1.trans f3) v r2
    | inr e => exact fun V2 cls d R2 f2 hx => let ⟨R3, f3⟩ := R1.back R2 f2; kk V2 R3 (f1.trans f3) cls d hx
  · cases ef
end
end M

/-! M20: raise, try -/
namespace M
open PySem PySem.Spec L2 PyProof.Rows
/-! ### an exception with a row -/
def spInit (K : PySem.W.Frag) : Sp := fun vs H Q _ => ∃ (a C : Addr) (v : V), vs = [.ref a, v] ∧ OexC K C ∧ PySem.W.findIn K (.ref C) "row" = some none ∧ H a = some (exo a C none) ∧ ∀ dx, H dx = none → dx ≠ a → Q .non (upd (upd H dx (exd dx [("row", v)])) a (exo a C (some dx)))
def xRaiseRow (j : Nat) (f : AF) : XF := fun S => (f S).bind fun p => match p.1 with
  | [d] => some (.ex ⟨j, some d⟩, p.2)
  | _ => none
def xRaise (j : Nat) : XF := fun S => some (.ex ⟨j, none⟩, S)
section
variable {X : Cx} {ca : Nat → Addr} {x : Str} {e : Expr} {fa : AF} {p pos pos' : Pos} {j k : Nat} {fI : Addr} {fd : FuncData}
theorem msx_raiseRow (hc : X.calm = true) (T : OexC X.K (ca j)) (iC : PySem.W.findIn X.K (.ref (ca j)) "__init__" = some (some (.ref fI))) (tI : PySem.W.typeIn X.K (.ref fI) = some (.type "function"))
    (F1 : FnOk X.prog X.w X.K X.mg X.base CX0 k fI fd ["self", "row"] (spInit X.K)) (hr : Room (k + 1) X.A) (hb : Binds X.K fd ["self", "row"] []) (hn : PySem.W.findIn X.K (.ref (ca j)) "row" = some none) (hm : X.mg x = some (.ref (ca j)))
    (ha : MA X [e] fa) (hg : Gl X x := by rfl) (hdb : (x == ("__debug__" : Str)) = false := by decide) (he : starEach [e] X.env = (false, eval e X.env) :: starEach [] X.env := by rfl) (hpl : (backTo pos (starEach [] X.env)).any (·.1) = false := by rfl) :
    MSx X ca (.Raise (some (.Call (.Name x p) [e] [] pos)) none pos') (xRaiseRow j fa) := fun W tk hp => by
  obtain ⟨t, pt, q⟩ := ha
  refine pImp (ps_raise hc tk (pmk_oex T iC tI F1 hr hb .nil pass0 hg hm pt hdb he hpl)) fun D σ H ⟨S, fl, S', V, eV, R, ef, kk⟩ => ?_
  subst eV
  obtain ⟨⟨ds, S1⟩, e1, ef⟩ := bind_some ef
  simp only at ef
  split at ef
  · rename_i d
    cases ef
    refine q S _ _ e1 V σ _ R fun vs V1 R1 f1 rv => ?_
    cases rv with
    | @cons v _ _ _ rv rn =>
      cases rn
      refine ⟨by show 1 ≤ 1000; decide, fun a na => ⟨a, ca j, v, rfl, T, hn, upd_same, fun dx ndx hne => ?_⟩⟩
      have nd : V1.H dx = none := by rw [upd_ne hne] at ndx; exact ndx
      refine ⟨rfl, dx, [("row", v)], upd_same, by rw [upd_ne hne, upd_same], nd, ?_⟩
      obtain ⟨R2, f2⟩ := R1.wrNew (o := .xd [("row", v)]) nd
      have hh : upd (del (upd (upd (upd V1.H a (exo a (ca j) none)) dx (exd dx [("row", v)])) a (exo a (ca j) (some dx))) a) dx (HO.xd [("row", v)]) = (V1.wr dx (.xd [("row", v)])).H := by
        funext b
        show _ = upd V1.H dx (HO.xd [("row", v)]) b
        by_cases b1 : b = dx
        · subst b1; rw [upd_same, upd_same]
        · rw [upd_ne b1, upd_ne b1]
          by_cases b2 : b = a
          · subst b2; rw [del_same, na]
          · rw [del_ne b2, upd_ne b2, upd_ne b1, upd_ne b2]
      rw [hh]
      exact kk _ σ R2 (f1.trans f2) _ _ ⟨rfl, dx, v, rfl, upd_same, rv.up f2⟩
  · cases ef
theorem msx_raise {m : Str} {jj : Nat} {p2 : Pos} {bmB : List Value} {B newId initId : String} (hc : X.calm = true) (F : PySem.ExcBaseFacts B newId initId bmB) (q : PySem.W.excIn X.K (ca j) bmB newId = true) (hm : X.mg x = some (.ref (ca j))) (kC : PySem.W.keepIn X.K (.ref (ca j)) = true) (r : Raises X (.ref (ca j)))
    (hg : Gl X x := by rfl) (hdb : (x == ("__debug__" : Str)) = false := by decide) : MSx X ca (.Raise (some (.Call (.Name x p) [.Constant (.str m) jj p2] [] pos)) none pos') (xRaise j) := fun W tk hp =>
  pImp (ps_raise hc tk (pmk_own F q hm kC r hg hdb)) fun D σ H ⟨S, fl, S', V, eV, R, ef, kk⟩ => by
    subst eV
    cases ef
    exact kk V σ R .refl _ _ ⟨rfl, rfl⟩
end
/-! ### try -/
def xTry (m : Nat → Option Bool) (f : XF) (hd : Ex → SF) : XF := fun S => (f S).bind fun p => match p.1 with
  | .ex e => match m e.i with
    | some true => (hd e p.2).bind fun q => some (.fl q.1, q.2)
    | some false => some (.ex e, p.2)
    | none => none
  | x => some (x, p.2)
/-- a suite that holds an exception of the class cls, with the dict d -/
def tH (K : PySem.W.Frag) (ca : Nat → Addr) (cls : Value) (d : Option Addr) (hd : Ex → SF) : TS := fun D s H => ∃ e S fl S' V, V.H = H ∧ Rel K V S s ∧ exR K ca V e cls d ∧ hd e S = some (fl, S') ∧ ∀ V' s', Rel K V' S' s' → Fr V S.r s V' S'.r s' → flQ K D s' V' fl
def MH (X : Cx) (ca : Nat → Addr) (suite : List Stmt) (hd : Ex → SF) : Prop := ∀ (a : Addr) (oe : Obj) (cls : Value) (d : Option Addr) (pn : List (Addr × Obj)), Zc cls d oe → (∃ vs, oe.data = .fields vs) → PSs (X.suite a ((a, oe) :: pn)) suite (tH X.K ca cls d hd)
theorem mh_plain {X : Cx} {ca : Nat → Addr} {suite : List Stmt} {b : SF} (h : ∀ (a : Addr) (pn : List (Addr × Obj)), MSs (X.suite a pn) suite b) : MH X ca suite (fun _ => b) := fun a oe cls d pn hz hf => by
  obtain ⟨t, p, q⟩ := h a ((a, oe) :: pn)
  refine psImp p fun D σ H ⟨e, S, fl, S', V, eV, R, hx, ef, kk⟩ => ?_
  subst eV
  exact q S fl S' ef V σ D R kk
section
variable {X : Cx} {ca : Nat → Addr} {x n : Str} {c : Value} {body suite : List Stmt} {b0 : Stmt} {np pos pos' : Pos} {f : XF} {hd : Ex → SF} {m : Nat → Option Bool}
theorem msx_tryOnly (hs : X.stack = X.env :: X.outer) (hf : X.env.frame = some X.env.locals) (hc : Names X x c) (hm : ∀ i b, m i = some b → PySem.W.exmOne X.K (.ref (ca i)) c = some b)
    (hb : ∀ (pn : List (Addr × Obj)) (xe : Value → Shared → Prop), MSsx (X.tr pn xe) ca body f) (hh : MH X ca (b0 :: suite) hd) :
    MSx X ca (.Try body [.ExceptHandler (some (.Name x np)) none (b0 :: suite) pos'] [] [] pos) (xTry m f hd) := fun W tk hp =>
  pImp (ps_try_only hs hf hc tk (tb := fun W' => tX X.K ca W' f) (ts := fun _ cls d => tH X.K ca cls d hd) (fun W' pn xe tk' hp' => hb pn xe W' tk' hp') (fun a oe cls d pn hz hv => hh a oe cls d pn hz hv)) fun D σ H ⟨S, fl, S', V, eV, R, ef, kk⟩ => by
    subst eV
    obtain ⟨⟨fl1, S1⟩, e1, ef⟩ := bind_some ef
    refine ⟨S, fl1, S1, V, rfl, R, e1, fun V1 s1 R1 f1 => ?_⟩
    cases fl1 with
    | fl y => cases ef; exact kk V1 s1 R1 f1
    | ex e =>
      intro cls d hx
      simp only at ef
      have hcl := hx.1
      split at ef
      · rename_i hm1
        obtain ⟨⟨fl2, S2⟩, e2, ef⟩ := bind_some ef
        cases ef
        exact ⟨true, by rw [hcl]; exact hm _ _ hm1, fun _ a na => ⟨e, S1, fl2, _, V1, rfl, R1, hx, e2, fun V2 s2 R2 f2 => kk V2 s2 R2 (f1.trans f2)⟩, (fun z => by cases z)⟩
      · rename_i hm1
        cases ef
        exact ⟨false, by rw [hcl]; exact hm _ _ hm1, (fun z => by cases z), fun _ => kk V1 s1 R1 f1 cls d hx⟩
      · cases ef
end
/-! ### isinstance of an exception that is held, whatever its dict -/
section
variable {prog : Program} {w : World} {K : PySem.W.Frag} {x D : Addr} {ox : Obj}
theorem found_class {od : Option Obj} (C : ExcC K D) : PySem.W.findObj K D od "__class__" = some (.bind (.builtin "getset_descriptor.__get__") (.builtin "object.__class__")) := by
  obtain ⟨cd, hc, _⟩ := PySem.W.any_some C.hd
  unfold PySem.W.findObj
  rw [hc, Option.bind_some, C.ha, Option.bind_some]
  simp [C.hn, C.ht]
theorem asks_class {od : Option Obj} {A : Around} {E : Value → Shared → Prop} {s : Shared} {Q : Option Value → Shared → Prop} (C : ExcC K D) (X : K.In s.heap) (I : PySem.W.InstAt s.heap x ox D od) (h : Q (some (.ref D)) { s with toks := s.toks + 1 }) : wpAny (model prog w) A (getAttr? (.ref x) "__class__") Q E s := by
  obtain ⟨hp, g, d, t, os⟩ := s
  have ty := I.type (M := model prog w)
  have lg := PySem.W.looks_findIn (M := model prog w) X C.hg
  have lk := PySem.W.looks_findIn (M := model prog w) X C.hk
  have lf := PySem.W.looks_find (M := model prog w) X I (found_class C)
  have isb : PySem.W.Looks (model prog w) hp (isInstance (.ref x) (.type "BaseException")) true := ty.andThen (PySem.W.looks_subIn X C.hs)
  have ne2 : (Value.builtin "BaseException.__getattribute__" == Value.builtin "object.__getattribute__") = false := by decide +kernel
  have ne1 : (onTheHeap (Value.ref D) && Value.builtin "BaseException.__getattribute__" == Value.builtin "object.__getattribute__") = false := by rw [ne2]; rfl
  unfold getAttr? getAttrBy? getAttrBy
  refine wpAny_bind (wpAny_mkText (wpAny_bind (wpAny_attempt (wpAny_holding (wpAny_bind (ty.at (wpAny_bind (lg.at ?_))))))))
  show wpAny _ _ (if (onTheHeap (Value.ref D) && Value.builtin "BaseException.__getattribute__" == Value.builtin "object.__getattribute__") = true
    then _ else _) _ _ _
  rw [ne1, if_neg Bool.false_ne_true]
  unfold getAttrByItsOwn hookBefore
  refine wpAny_bind ?_
  have onh : onTheHeap (Value.ref D) = true := rfl
  rw [if_pos onh]
  refine lk.at (wpAny_bind (wpAny_attempt (wpAny_holding ?_)))
  unfold callGetattribute
  rw [show (false && onTheHeap (Value.builtin "BaseException.__getattribute__")) = false from rfl, if_neg Bool.false_ne_true]
  unfold boundAndCalled
  rw [PySem.F.excAttr_ValueError.ga.bind (.ref x)]
  refine wpAny_bind (wpAny_pure ?_)
  show wpAny _ _ (call (.builtin "BaseException.__getattribute__") [.ref x, .str "__class__" t])
    _ _ _
  refine wpAny_call (codeAny_call_builtin PySem.F.excAttr_ValueError.ga.plain PySem.F.entry_bexc_ga ?_)
  refine @PySem.W.check_slot (model prog w) _ _ ⟨hp, g, d, t + 1, os⟩ "BaseException.__getattribute__" "BaseException" "__getattribute__" (.ref x) [.str "__class__" t] []
    _ (by decide +kernel) (by decide +kernel) isb (PySem.F.args_bexc_ga (.ref x) (.str "__class__" t)) ?_
  unfold Builtin.«object.__getattribute__»
  refine wpAny_bind (wpAny_of_eq (a := ((Value.ref x : Value), [Value.str "__class__" t])) (by first | rfl | (simp only [slotArgs]; rfl))
    ?_)
  refine wpAny_bind (wpAny_pure (wpAny_bind (ty.at (wpAny_bind (lf.at ?_)))))
  show wpAny _ _ (holding [Value.builtin "object.__class__"] (call (.builtin "getset_descriptor.__get__") [.builtin "object.__class__", .ref x, .ref D]) >>= ret)
    _ _ _
  refine wpAny_bind (wpAny_holding (wpAny_call (PySem.W.class_get (s := ⟨hp, g, d, t + 1, os⟩) (ox := ox) (od := od) X I C.hm ?_)))
  refine wpAny_pure ?_
  show wpAny _ _ (handedOut (.ref D)) _ _ _
  rw [show handedOut (.ref D) = _ from PySem.W.handedOut_of (v := .ref D) rfl]
  first
    | exact wpAny_pure (wpAny_pure h)
    | exact wpAny_pure (wpAny_bind (wpAny_pure (wpAny_pure h)))
    | exact wpAny_pure h
theorem kitx_held (C : ExcC K D) : PySem.W.KitX K (.ref x) (.ref D) (fun h => ∃ od, PySem.W.InstAt h x ox D od) where
  ty := fun _ _ _ ⟨_, I⟩ => I.type
  it := fun _ _ X _ => by
    obtain ⟨cd, hc, _⟩ := PySem.W.any_some C.hd
    unfold PySem.W.clsIn at hc
    split at hc
    · rename_i ho
      intro A' Q' E' s' k q
      unfold isType loadHead
      exact wpAny_bind (wpAny_loadPart (k _ _ (X _ _ ho)) (wpAny_pure q))
    · cases hc
  ne := fun h tp dd its n sl X htp => by
    obtain ⟨cd, hc, _⟩ := PySem.W.any_some C.hd
    refine Bool.eq_false_iff.mpr fun q => ?_
    obtain rfl : D = tp := Value.ref.inj (beq_iff_eq.mp q)
    unfold PySem.W.clsIn at hc
    split at hc
    · rename_i ho
      cases (X _ _ ho).symm.trans htp
    · cases hc
  ca := fun X ⟨_, I⟩ k => asks_class C X I k
end
/-- the dict of a held exception -/
def DcOk (H : Hp) (d : Option Addr) : Prop := d = none ∨ ∃ (dd : Addr) (fs : List (Str × V)), d = some dd ∧ H dd = some (.xd fs)
def rIsH (K : PySem.W.Frag) (a : Addr) (cls : Value) (d : Option Addr) : List V → Hp → VK → Prop := fun xs H Q => ∃ (D : Addr) (c : V) (u : Value) (b : Bool), cls = .ref D ∧ ExcC K D ∧ DcOk H d ∧ xs = [.ref a, c] ∧ ClsV c u ∧ PySem.W.kitOne K (.ref D) u = some b ∧ Q (.bl b) H
def rIsHT (K : PySem.W.Frag) (a : Addr) (cls : Value) (d : Option Addr) : List V → Hp → VK → Prop := fun xs H Q => ∃ (D tp : Addr) (cs : List V) (us : List Value) (b : Bool), cls = .ref D ∧ ExcC K D ∧ DcOk H d ∧ xs = [.ref a, .ref tp] ∧ H tp = some (.tup cs) ∧ Paired ClsV cs us ∧ PySem.W.kitAny K (.ref D) us = some b ∧ Q (.bl b) H
section
variable {X : Cx} {a : Addr} {oe : Obj} {cls : Value} {d : Option Addr} {pn : List (Addr × Obj)}
theorem held_inst {D : Addr} {pins : List (Addr × Obj)} {σ : L2.St} {H : Hp} {s : Shared} (hz : Zc (.ref D) d oe) (hf : ∃ vs, oe.data = .fields vs) (hd : DcOk H d) (I : Inv (X.suite a ((a, oe) :: pn)) pins σ H s) : ∃ od, PySem.W.InstAt s.heap a oe D od := by
  obtain ⟨hget, _⟩ := I.pin (a, oe) (List.mem_append.mpr (.inl List.mem_cons_self))
  obtain ⟨vs, hv⟩ := hf
  have hno : PySem.W.notCls oe = true := by unfold PySem.W.notCls; rw [hv] <;> rfl
  rcases hd with rfl | ⟨dd, fs, rfl, hh⟩
  · exact ⟨none, hget, hz.1, hno, by rw [hz.2]; trivial⟩
  · have hx : ObjOk X.prog X.w H s.heap dd (.xd fs) := I.hok dd _ hh
    obtain ⟨mA, hns, _⟩ := hx
    obtain ⟨od, ho, _⟩ := lookIn_ns hns
    exact ⟨some od, hget, hz.1, hno, by rw [hz.2]; exact ho⟩
theorem call_isH (hz : Zc cls d oe) (hf : ∃ vs, oe.data = .fields vs) : CallR (X.suite a ((a, oe) :: pn)) (.builtin "isinstance") (rIsH X.K a cls d) := by
  intro pins s σ H xs us Q I r h
  obtain ⟨D, c, u, b, rfl, C, hd, rfl, k, e, q⟩ := h
  obtain ⟨u1, u2, rfl, r1, r2⟩ := vals2 r
  cases (show u1 = Value.ref a from r1)
  cases k.eq r2
  exact PySem.W.kia_one (kitx_held (ox := oe) C) I.kIn (held_inst hz hf hd I) e (fun z => nomatch z) fun tk => ⟨.bl b, H, I.tok tk, rfl, q⟩
theorem call_isHT (hz : Zc cls d oe) (hf : ∃ vs, oe.data = .fields vs) : CallR (X.suite a ((a, oe) :: pn)) (.builtin "isinstance") (rIsHT X.K a cls d) := by
  intro pins s σ H xs us Q I r h
  obtain ⟨D, tp, cs, ws, b, rfl, C, hd, rfl, hT, k, e, q⟩ := h
  obtain ⟨u1, u2, rfl, r1, r2⟩ := vals2 r
  cases (show u1 = Value.ref a from r1)
  cases (show u2 = Value.ref tp from r2)
  obtain ⟨_, its, rv, o, h1, h2, n, h3⟩ := (show ObjOk X.prog X.w H s.heap tp (.tup cs) from I.hok tp _ hT)
  cases ClsV.all k rv
  obtain ⟨oc, od, dt, sl⟩ := o
  simp only at h2 h3
  subst h2 h3
  exact PySem.W.kia_tup (kitx_held (ox := oe) C) I.kIn (held_inst hz hf hd I) h1 e (fun z => nomatch z) fun tk => ⟨.bl b, H, I.tok tk, rfl, q⟩
end
end M

/-! M21: except X as e: what a suite may do with e -/
namespace M
open PySem PySem.Spec L2 PyProof.Rows
/-- what stands in such a suite -/
structure Hl (X : Cx) (ca : Nat → Addr) (i : Nat) (a : Addr) (cls : Value) (d : Option Addr) (e : Ex) (V : Wd) (S : Ms) (s : L2.St) : Prop where
  rel : Rel X.K V S s
  hx : exR X.K ca V e cls d
  at' : s[i]? = some (some (.ref a))
theorem exR.dc {K : PySem.W.Frag} {ca : Nat → Addr} {V : Wd} {e : Ex} {cls : Value} {d : Option Addr} (h : exR K ca V e cls d) : DcOk V.H d := by
  obtain ⟨_, h⟩ := h
  cases e with
  | mk j r =>
    cases r with
    | none => exact .inl h
    | some x => obtain ⟨dd, v, e1, e2, _⟩ := h; exact .inr ⟨dd, _, e1, e2⟩
theorem exR.al {K : PySem.W.Frag} {ca : Nat → Addr} {V : Wd} {e : Ex} {cls : Value} {d : Option Addr} (h : exR K ca V e cls d) {p : Addr} {o : HO} (hp : V.H p = none) (hF : ∀ b u, V.F b = some u → (V.al p o).F b = some u) : exR K ca (V.al p o) e cls d := by
  obtain ⟨h1, h⟩ := h
  refine ⟨h1, ?_⟩
  cases e with
  | mk j r =>
    cases r with
    | none => exact h
    | some x =>
      obtain ⟨dd, v, e1, e2, rv⟩ := h
      exact ⟨dd, v, e1, by show upd V.H p o dd = _; rw [upd_ne (ne_of_none e2 hp)]; exact e2, rv.mono hF (List.prefix_refl _)⟩
def HV (X : Cx) (ca : Nat → Addr) (i : Nat) (ex : Expr) (f : Ex → Option D) : Prop := ∀ (a : Addr) (oe : Obj) (cls : Value) (d : Option Addr) (pn : List (Addr × Obj)), Zc cls d oe → (∃ vs, oe.data = .fields vs) →
  ∃ t, PE (X.suite a ((a, oe) :: pn)) ex t ∧ ∀ e v, f e = some v → ∀ V S s (Q : VK), Hl X ca i a cls d e V S s → (∀ y V', Hl X ca i a cls d e V' S s → Fr V S.r s V' S.r s → RV X.K V'.F V'.io y v → Q y V'.H) → t s V.H Q
def HT (X : Cx) (ca : Nat → Addr) (i : Nat) (ex : Expr) (f : Ex → Option Bool) : Prop := ∀ (a : Addr) (oe : Obj) (cls : Value) (d : Option Addr) (pn : List (Addr × Obj)), Zc cls d oe → (∃ vs, oe.data = .fields vs) →
  ∃ t, PT (X.suite a ((a, oe) :: pn)) ex t ∧ ∀ e b, f e = some b → ∀ V S s (Q : Bool → Hp → Prop), Hl X ca i a cls d e V S s → (∀ V', Hl X ca i a cls d e V' S s → Fr V S.r s V' S.r s → Q b V'.H) → t s V.H Q
def HW (X : Cx) (ca : Nat → Addr) (i : Nat) (ex : Expr) (f : Ex → Option Bool) : Prop := ∀ (a : Addr) (oe : Obj) (cls : Value) (d : Option Addr) (pn : List (Addr × Obj)), Zc cls d oe → (∃ vs, oe.data = .fields vs) →
  ∃ t, PW (X.suite a ((a, oe) :: pn)) ex t ∧ ∀ e b, f e = some b → ∀ V S s (Q : Bool → Hp → Prop), Hl X ca i a cls d e V S s → (∀ V', Hl X ca i a cls d e V' S s → Fr V S.r s V' S.r s → Q b V'.H) → t s V.H Q
def HSs (X : Cx) (ca : Nat → Addr) (i : Nat) (st : List Stmt) (f : Ex → Option Fl) : Prop := ∀ (a : Addr) (oe : Obj) (cls : Value) (d : Option Addr) (pn : List (Addr × Obj)), Zc cls d oe → (∃ vs, oe.data = .fields vs) →
  ∃ t, PSs (X.suite a ((a, oe) :: pn)) st t ∧ ∀ e fl, f e = some fl → ∀ V S s (D : Ends), Hl X ca i a cls d e V S s → (∀ V', Hl X ca i a cls d e V' S s → Fr V S.r s V' S.r s → flQ X.K D s V' fl) → t D s V.H
def HS (X : Cx) (ca : Nat → Addr) (i : Nat) (st : Stmt) (f : Ex → Option Fl) : Prop := ∀ (a : Addr) (oe : Obj) (cls : Value) (d : Option Addr) (pn : List (Addr × Obj)), Zc cls d oe → (∃ vs, oe.data = .fields vs) →
  ∃ t, PS (X.suite a ((a, oe) :: pn)) st t ∧ ∀ e fl, f e = some fl → ∀ V S s (D : Ends), Hl X ca i a cls d e V S s → (∀ V', Hl X ca i a cls d e V' S s → Fr V S.r s V' S.r s → flQ X.K D s V' fl) → t D s V.H
section
variable {X : Cx} {ca : Nat → Addr} {i : Nat} {x y : Str} {ex ey c : Expr} {rest : List Expr} {f g : Ex → Option D} {ft gt : Ex → Option Bool} {fs gs : Ex → Option Fl} {p p1 p2 pos : Pos} {st : Stmt} {sts s1 s2 : List Stmt}
/-! values -/
theorem hv_c {v : V} {d0 : D} (h : ∀ Y : Cx, PE Y ex (tC v)) (hr : ∀ F io, RV X.K F io v d0) : HV X ca i ex (fun _ => some d0) := fun a oe cls d pn _ _ => ⟨_, h _, fun e v' ev V S s Q hl k => by
  cases ev
  exact k v V hl .refl (hr _ _)⟩
theorem hv_bl {b : Bool} {j} : HV X ca i (.Constant (.bool b) j pos) (fun _ => some (.bl b)) := hv_c (fun _ => pe_bl) fun _ _ => .bl b
theorem hv_non {j} : HV X ca i (.Constant .none j pos) (fun _ => some .non) := hv_c (fun _ => pe_non) fun _ _ => .non
theorem hv_str {z : Str} {j} : HV X ca i (.Constant (.str z) j pos) (fun _ => some (.str z)) := hv_c (fun _ => pe_str) fun _ _ => .str z
theorem hv_row {j : Nat} (T : XfC X.K (ca j)) (hno : PySem.W.findIn X.K (.ref (ca j)) "row" = some none) (hN : X.N[i]? = some x := by rfl) (hv : Vis X.env.scope x := by first | exact Or.inl rfl | exact Or.inr (Or.inl rfl) | exact Or.inr (Or.inr rfl))
    (hd : (x == ("__debug__" : Str)) = false := by decide) (hcd : (x == ("__classdict__" : Str)) = false := by decide) (hb : ∀ env, attributeBase (.Name x p1) "row" env (eval (.Name x p1) env) = eval (.Name x p1) env := by intro _; rfl) :
    HV X ca i (.Attribute (.Name x p1) "row" pos) (fun e => if e.i = j then e.r else none) := fun a oe cls d pn hz hf => by
  refine ⟨_, pe_xf T hno hz hf (pe_var (i := i) hN hv hd hcd) (hb _), fun e v ev V S s Q hl k => ?_⟩
  have hxx := hl.hx
  obtain ⟨h1, h2⟩ := hxx
  replace ev : (if e.i = j then e.r else none) = some v := ev
  split at ev
  · rename_i ej
    rw [ev] at h2
    obtain ⟨dd, u, e1, e2, rv⟩ := h2
    refine ⟨_, hl.at', rfl, by rw [h1, ej], dd, _, u, e1, e2, by simp [List.lookup], k u V hl .refl rv⟩
  · cases ev
/-! isinstance -/
theorem pe_e {a : Addr} {pn : List (Addr × Obj)} (hN : X.N[i]? = some x) (hv : Vis X.env.scope x) (hd : (x == ("__debug__" : Str)) = false) (hcd : (x == ("__classdict__" : Str)) = false) : PE (X.suite a pn) (.Name x p1) (tVar i) := pe_var hN hv hd hcd
theorem hv_is {m : Nat → Option Bool} {v : V} {u : Value} (hE : ∀ j b, m j = some b → ExcC X.K (ca j) ∧ PySem.W.kitOne X.K (.ref (ca j)) u = some b) (hcv : ClsV v u) (hT : ∀ (a : Addr) (pn : List (Addr × Obj)), PE (X.suite a pn) ey (tC v)) (hm : X.mg "isinstance" = none)
    (hg : Gl X "isinstance" := by rfl) (hN : X.N[i]? = some x := by rfl) (hv : Vis X.env.scope x := by first | exact Or.inl rfl | exact Or.inr (Or.inl rfl) | exact Or.inr (Or.inr rfl))
    (hd : (x == ("__debug__" : Str)) = false := by decide) (hcd : (x == ("__classdict__" : Str)) = false := by decide)
    (he : ∀ env, starEach [.Name x p1, ey] env = (false, eval (.Name x p1) env) :: starEach [ey] env := by intro _; rfl) (he2 : ∀ env, starEach [ey] env = (false, eval ey env) :: starEach [] env := by intro _; rfl)
    (hp1 : ∀ env, (backTo pos (starEach [ey] env)).any (·.1) = false := by intro _; rfl) :
    HV X ca i (.Call (.Name "isinstance" p) [.Name x p1, ey] [] pos) (fun e => (m e.i).map .bl) := fun a oe cls d pn hz hf => by
  have pa : PA (X.suite a ((a, oe) :: pn)) [.Name x p1, ey] (tCons (tVar i) (tCons (tC v) tNil)) := pa_cons (pe_e hN hv hd hcd) (pa_cons (hT a _) pa_nil (he2 _)) (he _)
  refine ⟨_, pe_callB (call_isH hz hf) hg hm (by decide +kernel) pa (by decide) (by decide) (he _) (hp1 _), fun e w ew V S s Q hl k => ?_⟩
  simp only [Option.map_eq_some_iff] at ew
  obtain ⟨b, eb, rfl⟩ := ew
  obtain ⟨C, kk⟩ := hE _ _ eb
  refine ⟨_, hl.at', ?_⟩
  exact ⟨ca e.i, v, u, b, hl.hx.1, C, hl.hx.dc, rfl, hcv, kk, k _ V hl .refl (.bl b)⟩
theorem hv_isT {m : Nat → Option Bool} {es : List Expr} {vs : List V} {us : List Value} {ta : TA} {tp : Pos} {tx} (hE : ∀ j b, m j = some b → ExcC X.K (ca j) ∧ PySem.W.kitAny X.K (.ref (ca j)) us = some b) (hcv : Paired ClsV vs us) (hl1 : vs.length ≤ 1000)
    (hT : ∀ (a : Addr) (pn : List (Addr × Obj)), PA (X.suite a pn) es ta) (hta : ∀ s H Q, Q vs H → ta s H Q) (hm : X.mg "isinstance" = none)
    (hg : Gl X "isinstance" := by rfl) (hN : X.N[i]? = some x := by rfl) (hv : Vis X.env.scope x := by first | exact Or.inl rfl | exact Or.inr (Or.inl rfl) | exact Or.inr (Or.inr rfl))
    (hd : (x == ("__debug__" : Str)) = false := by decide) (hcd : (x == ("__classdict__" : Str)) = false := by decide)
    (he : ∀ env, starEach [.Name x p1, .Tuple es tx tp] env = (false, eval (.Name x p1) env) :: starEach [.Tuple es tx tp] env := by intro _; rfl) (he2 : ∀ env, starEach [.Tuple es tx tp] env = (false, eval (.Tuple es tx tp) env) :: starEach [] env := by intro _; rfl)
    (hp1 : ∀ env, (backTo pos (starEach [.Tuple es tx tp] env)).any (·.1) = false := by intro _; rfl) :
    HV X ca i (.Call (.Name "isinstance" p) [.Name x p1, .Tuple es tx tp] [] pos) (fun e => (m e.i).map .bl) := fun a oe cls d pn hz hf => by
  have pa : PA (X.suite a ((a, oe) :: pn)) [.Name x p1, .Tuple es tx tp] (tCons (tVar i) (tCons (tTup ta) tNil)) := pa_cons (pe_e hN hv hd hcd) (pa_cons (pe_tup (hT a _)) pa_nil (he2 _)) (he _)
  refine ⟨_, pe_callB (call_isHT hz hf) hg hm (by decide +kernel) pa (by decide) (by decide) (he _) (hp1 _), fun e w ew V S s Q hl k => ?_⟩
  simp only [Option.map_eq_some_iff] at ew
  obtain ⟨b, eb, rfl⟩ := ew
  obtain ⟨C, kk⟩ := hE _ _ eb
  refine ⟨_, hl.at', ?_⟩
  refine hta _ _ _ ⟨Nat.le_trans hl1 (by decide), fun q nq => ?_⟩
  obtain ⟨R1, f1⟩ := hl.rel.al (o := .tup vs) nq
  have hx1 := hl.hx.al (o := .tup vs) nq f1.fx
  exact ⟨ca e.i, q, vs, us, b, hx1.1, C, hx1.dc, rfl, upd_same, hcv, kk, k _ (V.al q (.tup vs)) ⟨R1, hx1, hl.at'⟩ f1 (.bl b)⟩
/-! and, or, not -/
theorem hv_one {op} (h : HV X ca i ex f) : HV X ca i (.BoolOp op [ex] pos) f := fun a oe cls d pn hz hf => by
  obtain ⟨t, pt, q⟩ := h a oe cls d pn hz hf
  exact ⟨_, pe_one pt, q⟩
def hAnd (f g : Ex → Option D) : Ex → Option D := fun e => (f e).bind fun v => match v with
  | .bl true => g e
  | .bl false => some (.bl false)
  | _ => none
def hOr (f g : Ex → Option D) : Ex → Option D := fun e => (f e).bind fun v => match v with
  | .bl true => some (.bl true)
  | .bl false => g e
  | _ => none
def hNot (f : Ex → Option D) : Ex → Option D := fun e => (f e).bind fun v => match v with
  | .bl b => some (.bl (!b))
  | _ => none
theorem hv_and (h1 : HV X ca i ex f) (h2 : HV X ca i (.BoolOp .And (ey :: rest) pos) g) : HV X ca i (.BoolOp .And (ex :: ey :: rest) pos) (hAnd f g) := fun a oe cls d pn hz hf => by
  obtain ⟨t, pt, q⟩ := h1 a oe cls d pn hz hf
  obtain ⟨t2, pt2, q2⟩ := h2 a oe cls d pn hz hf
  refine ⟨_, pe_and pt pt2, fun e v ev V S s Q hl k => ?_⟩
  obtain ⟨v1, e1, ev⟩ := bind_some ev
  refine q e v1 e1 V S s _ hl fun z V1 hl1 f1 rv => ?_
  split at ev
  · cases rv.bl_inv
    exact ⟨true, rfl, by rw [if_pos rfl]; exact q2 e v ev V1 S s Q hl1 fun z V2 hl2 f2 => k z V2 hl2 (f1.trans f2)⟩
  · cases rv.bl_inv
    cases ev
    exact ⟨false, rfl, by rw [if_neg Bool.false_ne_true]; exact k _ V1 hl1 f1 (.bl false)⟩
  · cases ev
theorem hv_or (h1 : HV X ca i ex f) (h2 : HV X ca i (.BoolOp .Or (ey :: rest) pos) g) : HV X ca i (.BoolOp .Or (ex :: ey :: rest) pos) (hOr f g) := fun a oe cls d pn hz hf => by
  obtain ⟨t, pt, q⟩ := h1 a oe cls d pn hz hf
  obtain ⟨t2, pt2, q2⟩ := h2 a oe cls d pn hz hf
  refine ⟨_, pe_or pt pt2, fun e v ev V S s Q hl k => ?_⟩
  obtain ⟨v1, e1, ev⟩ := bind_some ev
  refine q e v1 e1 V S s _ hl fun z V1 hl1 f1 rv => ?_
  split at ev
  · cases rv.bl_inv
    cases ev
    exact ⟨true, rfl, by rw [if_pos rfl]; exact k _ V1 hl1 f1 (.bl true)⟩
  · cases rv.bl_inv
    exact ⟨false, rfl, by rw [if_neg Bool.false_ne_true]; exact q2 e v ev V1 S s Q hl1 fun z V2 hl2 f2 => k z V2 hl2 (f1.trans f2)⟩
  · cases ev
theorem hv_not (h1 : HV X ca i ex f) : HV X ca i (.UnaryOp .Not ex pos) (hNot f) := fun a oe cls d pn hz hf => by
  obtain ⟨t, pt, q⟩ := h1 a oe cls d pn hz hf
  refine ⟨_, pe_not pt, fun e v ev V S s Q hl k => ?_⟩
  obtain ⟨v1, e1, ev⟩ := bind_some ev
  refine q e v1 e1 V S s _ hl fun z V1 hl1 f1 rv => ?_
  split at ev
  · cases rv.bl_inv
    cases ev
    exact ⟨_, rfl, k _ V1 hl1 f1 (.bl _)⟩
  · cases ev
/-! tests -/
def hB (f : Ex → Option D) : Ex → Option Bool := fun e => (f e).bind fun v => match v with
  | .bl b => some b
  | _ => none
theorem ht_v (h : HV X ca i ex f) (he : ∀ env whole, isTrue ex env whole = (do let v ← whole; standAt ex.pos; holding [v] (truthy v)) := by intro _ _; rfl) : HT X ca i ex (hB f) := fun a oe cls d pn hz hf => by
  obtain ⟨t, pt, q⟩ := h a oe cls d pn hz hf
  refine ⟨_, pt_val pt (he _), fun e b eb V S s Q hl k => ?_⟩
  obtain ⟨v1, e1, eb⟩ := bind_some eb
  refine q e v1 e1 V S s _ hl fun z V1 hl1 f1 rv => ?_
  split at eb
  · cases rv.bl_inv
    cases eb
    exact ⟨_, rfl, k V1 hl1 f1⟩
  · cases eb
theorem ht_w (h : HW X ca i ex ft) : HT X ca i ex ft := fun a oe cls d pn hz hf => by
  obtain ⟨t, pt, q⟩ := h a oe cls d pn hz hf
  exact ⟨_, pt.pt, q⟩
theorem ht_not (h : HT X ca i ex ft) : HT X ca i (.UnaryOp .Not ex pos) (fun e => (ft e).map (!·)) := fun a oe cls d pn hz hf => by
  obtain ⟨t, pt, q⟩ := h a oe cls d pn hz hf
  refine ⟨_, pt_not pt, fun e b eb V S s Q hl k => ?_⟩
  simp only [Option.map_eq_some_iff] at eb
  obtain ⟨b1, e1, rfl⟩ := eb
  exact q e b1 e1 V S s _ hl fun V1 hl1 f1 => k V1 hl1 f1
theorem hw_or1 (h : HT X ca i ex ft) : HW X ca i (.BoolOp .Or [ex] pos) ft := fun a oe cls d pn hz hf => by
  obtain ⟨t, pt, q⟩ := h a oe cls d pn hz hf
  exact ⟨_, pw_or1 pt, q⟩
theorem hw_and1 (h : HT X ca i ex ft) : HW X ca i (.BoolOp .And [ex] pos) ft := fun a oe cls d pn hz hf => by
  obtain ⟨t, pt, q⟩ := h a oe cls d pn hz hf
  exact ⟨_, pw_and1 pt, q⟩
theorem hw_or (h1 : HT X ca i ex ft) (h2 : HW X ca i (.BoolOp .Or (ey :: rest) pos) gt) : HW X ca i (.BoolOp .Or (ex :: ey :: rest) pos) (fun e => (ft e).bind fun b => if b then some true else gt e) := fun a oe cls d pn hz hf => by
  obtain ⟨t, pt, q⟩ := h1 a oe cls d pn hz hf
  obtain ⟨t2, pt2, q2⟩ := h2 a oe cls d pn hz hf
  refine ⟨_, pw_or pt pt2, fun e b eb V S s Q hl k => ?_⟩
  obtain ⟨b1, e1, eb⟩ := bind_some eb
  refine q e b1 e1 V S s _ hl fun V1 hl1 f1 => ?_
  cases b1 with
  | true => cases eb; rw [if_pos rfl]; exact k V1 hl1 f1
  | false => rw [if_neg Bool.false_ne_true]; exact q2 e b eb V1 S s Q hl1 fun V2 hl2 f2 => k V2 hl2 (f1.trans f2)
theorem hw_and (h1 : HT X ca i ex ft) (h2 : HW X ca i (.BoolOp .And (ey :: rest) pos) gt) : HW X ca i (.BoolOp .And (ex :: ey :: rest) pos) (fun e => (ft e).bind fun b => if b then gt e else some false) := fun a oe cls d pn hz hf => by
  obtain ⟨t, pt, q⟩ := h1 a oe cls d pn hz hf
  obtain ⟨t2, pt2, q2⟩ := h2 a oe cls d pn hz hf
  refine ⟨_, pw_and pt pt2, fun e b eb V S s Q hl k => ?_⟩
  obtain ⟨b1, e1, eb⟩ := bind_some eb
  refine q e b1 e1 V S s _ hl fun V1 hl1 f1 => ?_
  cases b1 with
  | true => rw [if_pos rfl]; exact q2 e b eb V1 S s Q hl1 fun V2 hl2 f2 => k V2 hl2 (f1.trans f2)
  | false => cases eb; rw [if_neg Bool.false_ne_true]; exact k V1 hl1 f1
/-! statements -/
def hRet (f : Ex → Option D) : Ex → Option Fl := fun e => (f e).bind fun v => some (.rt v)
def hIf (c : Ex → Option Bool) (f g : Ex → Option Fl) : Ex → Option Fl := fun e => (c e).bind fun b => if b then f e else g e
def hSeq (f g : Ex → Option Fl) : Ex → Option Fl := fun e => (f e).bind fun fl => match fl with
  | .nx => g e
  | x => some x
theorem hs_ret (h : HV X ca i ex f) : HS X ca i (.Return (some ex) pos) (hRet f) := fun a oe cls d pn hz hf => by
  obtain ⟨t, pt, q⟩ := h a oe cls d pn hz hf
  refine ⟨_, ps_ret pt, fun e fl ef V S s D hl k => ?_⟩
  obtain ⟨v, e1, ef⟩ := bind_some ef
  cases ef
  exact q e v e1 V S s _ hl fun z V1 hl1 f1 rv => k V1 hl1 f1 z rv
theorem hs_if (h : HT X ca i c ft) (h1 : HSs X ca i s1 fs) (h2 : HSs X ca i s2 gs) : HS X ca i (.If c s1 s2 pos) (hIf ft fs gs) := fun a oe cls d pn hz hf => by
  obtain ⟨t, pt, q⟩ := h a oe cls d pn hz hf
  obtain ⟨u1, pu1, q1⟩ := h1 a oe cls d pn hz hf
  obtain ⟨u2, pu2, q2⟩ := h2 a oe cls d pn hz hf
  refine ⟨_, ps_if pt pu1 pu2, fun e fl ef V S s D hl k => ?_⟩
  obtain ⟨b, e1, ef⟩ := bind_some ef
  refine q e b e1 V S s _ hl fun V1 hl1 f1 => ?_
  cases b with
  | true => rw [if_pos rfl]; exact q1 e fl ef V1 S s D hl1 fun V2 hl2 f2 => k V2 hl2 (f1.trans f2)
  | false => rw [if_neg Bool.false_ne_true]; exact q2 e fl ef V1 S s D hl1 fun V2 hl2 f2 => k V2 hl2 (f1.trans f2)
theorem hss_nil : HSs X ca i [] (fun _ => some .nx) := fun a oe cls d pn hz hf => ⟨_, pss_nil, fun e fl ef V S s D hl k => by cases ef; exact k V hl .refl⟩
theorem hss_one (h : HS X ca i st fs) : HSs X ca i [st] fs := fun a oe cls d pn hz hf => by
  obtain ⟨t, pt, q⟩ := h a oe cls d pn hz hf
  exact ⟨_, pss_one pt, q⟩
theorem hss_cons (h : HS X ca i st fs) (h2 : HSs X ca i sts gs) : HSs X ca i (st :: sts) (hSeq fs gs) := fun a oe cls d pn hz hf => by
  obtain ⟨t, pt, q⟩ := h a oe cls d pn hz hf
  obtain ⟨t2, pt2, q2⟩ := h2 a oe cls d pn hz hf
  refine ⟨_, pss_cons pt pt2, fun e fl ef V S s D hl k => ?_⟩
  obtain ⟨fl1, e1, ef⟩ := bind_some ef
  refine q e fl1 e1 V S s { D with nx := t2 D } hl fun V1 hl1 f1 => ?_
  cases fl1 with
  | nx => exact q2 e fl ef V1 S s D hl1 fun V2 hl2 f2 => k V2 hl2 (f1.trans f2)
  | bk => cases ef; exact k V1 hl1 f1
  | ct => cases ef; exact k V1 hl1 f1
  | rt v => cases ef; exact k V1 hl1 f1
end
/-! the clause -/
theorem Rel.setEmp {K : PySem.W.Frag} {V : Wd} {S : Ms} {s : L2.St} (R : Rel K V S s) (i : Nat) (o : Option L2.V) : Rel K V ⟨S.r.set i .emp, S.m⟩ (s.set i o) ∧ Fr V S.r s V (S.r.set i .emp) (s.set i o) := by
  have inv : ∀ j c, (S.r.set i Slot.emp)[j]? = some (Slot.own c) → i ≠ j ∧ S.r[j]? = some (Slot.own c) := fun j c e => by
    by_cases h : i = j
    · subst h
      by_cases hi : i < S.r.length
      · rw [List.getElem?_set_self hi] at e; cases e
      · rw [List.getElem?_eq_none (by simpa using hi)] at e; cases e
    · rw [List.getElem?_set_ne h] at e; exact ⟨h, e⟩
  refine ⟨⟨R.sub, R.nd, R.nf, R.len, R.cells, by simp [R.sl], fun j e hj => ?_, fun j c hj => ?_, fun j k c c' b e1 e2 e3 e4 => ?_⟩, ⟨fun _ _ h => h, List.prefix_refl _, fun b u hb n => ⟨hb, fun m => n ?_⟩, fun _ h => h⟩⟩
  · by_cases h : i = j
    · subst h
      by_cases hi : i < S.r.length
      · rw [List.getElem?_set_self hi] at hj; cases hj
      · rw [List.getElem?_eq_none (by simpa using hi)] at hj; cases hj
    · rw [List.getElem?_set_ne h] at hj ⊢; exact R.slots j e hj
  · obtain ⟨h, e⟩ := inv j c hj
    rw [List.getElem?_set_ne h]; exact R.owns j c e
  · obtain ⟨n1, q1⟩ := inv j c e1
    obtain ⟨n2, q2⟩ := inv k c' e2
    rw [List.getElem?_set_ne n1] at e3
    rw [List.getElem?_set_ne n2] at e4
    exact R.odis j k c c' b q1 q2 e3 e4
  · rcases m with m | m | ⟨j, c, e1, e2⟩
    · exact .inl m
    · exact .inr (.inl m)
    · obtain ⟨n1, q1⟩ := inv j c e1
      rw [List.getElem?_set_ne n1] at e2
      exact .inr (.inr ⟨j, c, q1, e2⟩)
def xTryAs (m : Nat → Option Bool) (i : Nat) (f : XF) (hd : Ex → Option Fl) : XF := fun S => (f S).bind fun p => match p.1 with
  | .ex e => match m e.i with
    | some true => if i < p.2.r.length then (hd e).bind fun fl => some (.fl fl, ⟨p.2.r.set i .emp, p.2.m⟩) else none
    | some false => some (.ex e, p.2)
    | none => none
  | x => some (x, p.2)
def tHa (X : Cx) (ca : Nat → Addr) (i : Nat) (a : Addr) (cls : Value) (d : Option Addr) (hd : Ex → Option Fl) : TS := fun D s H => ∃ e S fl V, V.H = H ∧ Hl X ca i a cls d e V S s ∧ hd e = some fl ∧ ∀ V', Hl X ca i a cls d e V' S s → Fr V S.r s V' S.r s → flQ X.K D s V' fl
theorem msx_tryAs {X : Cx} {ca : Nat → Addr} {i : Nat} {x n : Str} {c : Value} {body suite : List Stmt} {b0 : Stmt} {np pos pos' : Pos} {f : XF} {hd : Ex → Option Fl} {m : Nat → Option Bool}
    (hs : X.stack = X.env :: X.outer) (hf : X.env.frame = some X.env.locals) (hN : X.N.Nodup) (hi : X.N[i]? = some n) (hln : X.env.kindOf n = some .local) (hc : Names X x c) (hm : ∀ j b, m j = some b → PySem.W.exmOne X.K (.ref (ca j)) c = some b)
    (hb : ∀ (pn : List (Addr × Obj)) (xe : Value → Shared → Prop), MSsx (X.tr pn xe) ca body f) (hh : HSs X ca i (b0 :: suite) hd) :
    MSx X ca (.Try body [.ExceptHandler (some (.Name x np)) (some n) (b0 :: suite) pos'] [] [] pos) (xTryAs m i f hd) := fun W tk hp =>
  pImp (ps_try_as hs hf hN hi hln hc tk (tb := fun W' => tX X.K ca W' f) (ts := fun a cls d => tHa X ca i a cls d hd) (fun W' pn xe tk' hp' => hb pn xe W' tk' hp') (fun a oe cls d pn hz hv => by
    obtain ⟨t, pt, q⟩ := hh a oe cls d pn hz hv
    refine psImp pt fun D σ H ⟨e, S, fl, V, eV, hl, ef, kk⟩ => ?_
    subst eV
    exact q e fl ef V S σ D hl kk)) fun D σ H ⟨S, fl, S', V, eV, R, ef, kk⟩ => by
    subst eV
    obtain ⟨⟨fl1, S1⟩, e1, ef⟩ := bind_some ef
    refine ⟨S, fl1, S1, V, rfl, R, e1, fun V1 s1 R1 f1 => ?_⟩
    cases fl1 with
    | fl y => cases ef; exact kk V1 s1 R1 f1
    | ex e =>
      intro cls d hx
      simp only at ef
      have hcl := hx.1
      split at ef
      · rename_i hm1
        split at ef
        · rename_i hil
          obtain ⟨fl2, e2, ef⟩ := bind_some ef
          cases ef
          refine ⟨true, by rw [hcl]; exact hm _ _ hm1, fun _ a na => ?_, (fun z => by cases z)⟩
          obtain ⟨R2, f2⟩ := R1.setEmp i (some (.ref a))
          refine ⟨e, ⟨S1.r.set i .emp, S1.m⟩, fl2, V1, rfl, ⟨R2, hx, by rw [List.getElem?_set_self (by rw [R1.sl]; exact hil)]⟩, e2, fun V3 hl3 f3 => ?_⟩
          obtain ⟨R4, f4⟩ := hl3.rel.setEmp i none
          have e5 : (⟨(S1.r.set i Slot.emp).set i .emp, S1.m⟩ : Ms) = ⟨S1.r.set i .emp, S1.m⟩ := by rw [List.set_set]
          have e6 : (s1.set i (some (L2.V.ref a))).set i none = s1.set i none := by rw [List.set_set]
          rw [e5, e6] at R4
          have f5 := (f1.trans f2).trans (f3.trans f4)
          rw [List.set_set, e6] at f5
          have kf := kk V3 _ R4 f5
          cases fl2 with
          | nx => show D.nx ((s1.set i (some (L2.V.ref a))).set i none) V3.H; rw [e6]; exact kf
          | bk => show D.bk ((s1.set i (some (L2.V.ref a))).set i none) V3.H; rw [e6]; exact kf
          | ct => show D.ct ((s1.set i (some (L2.V.ref a))).set i none) V3.H; rw [e6]; exact kf
          | rt v => exact kf
        · cases ef
      · rename_i hm1
        cases ef
        exact ⟨false, by rw [hcl]; exact hm _ _ hm1, (fun z => by cases z), fun _ => kk V1 s1 R1 f1 cls d hx⟩
      · cases ef
end M

/-! M22: exceptions: facts of the text, rows for simp -/
namespace M
open PySem PySem.Spec L2 PyProof.Rows
/-! tables of classes -/
def tb : List (Nat × Bool) → Nat → Option Bool
  | [], _ => none
  | (k, b) :: r, j => if k = j then some b else tb r j
def Tab (P : Nat → Bool → Prop) (l : List (Nat × Bool)) : Prop := ∀ j b, tb l j = some b → P j b
theorem tab_nil {P : Nat → Bool → Prop} : Tab P [] := fun j b h => by cases h
theorem tab_cons {P : Nat → Bool → Prop} {k : Nat} {b : Bool} {l : List (Nat × Bool)} (h : P k b) (t : Tab P l) : Tab P ((k, b) :: l) := fun j c e => by
  unfold tb at e
  split at e
  · rename_i q; subst q; cases e; exact h
  · exact t j c e
@[simp] theorem tb_nil {j : Nat} : tb [] j = none := rfl
@[simp] theorem tb_cons {k j : Nat} {b : Bool} {r : List (Nat × Bool)} : tb ((k, b) :: r) j = if k = j then some b else tb r j := rfl
theorem kit_ref {K : PySem.W.Frag} {C D : Addr} {b : Bool} (hdct : PySem.W.hasDictIn K C = true) (ht : PySem.W.typeIn K (.ref C) = some (.type "type")) (h4 : PySem.W.subIn K (.ref D) (.ref C) = some b) (hs : PySem.W.subIn K (.ref D) (.ref D) = some true) : PySem.W.kitOne K (.ref D) (.ref C) = some b := by
  obtain ⟨cd, hc, _⟩ := PySem.W.any_some hdct
  have e2 : ((PySem.W.clsIn K C).isSome && PySem.W.typeIn K (.ref C) == some (.type "type")) = true := by rw [hc, ht] <;> rfl
  unfold PySem.W.kitOne
  by_cases e : D = C
  · subst e
    rw [hs] at h4
    cases h4
    rw [if_pos (by simp)]
  · rw [if_neg (by simp [e])]
    show (if ((PySem.W.clsIn K C).isSome && PySem.W.typeIn K (.ref C) == some (.type "type")) = true then PySem.W.subIn K (.ref D) (.ref C) else none) = some b
    rw [if_pos e2]; exact h4
theorem kit_bty {K : PySem.W.Frag} {D : Addr} {T : String} {b : Bool} (hm : PySem.W.kitMeta T = true) (h4 : PySem.W.subIn K (.ref D) (.type T) = some b) : PySem.W.kitOne K (.ref D) (.type T) = some b := by
  unfold PySem.W.kitOne
  rw [if_neg (by simp)]
  show (if PySem.W.kitMeta T = true then PySem.W.subIn K (.ref D) (.type T) else none) = some b
  rw [if_pos hm]; exact h4
/-! raising with a row -/
structure Xrow (P : Program) (w : World) (K : PySem.W.Frag) (mg : Str → Option Value) (base : Heap) (ca : Nat → Addr) (k j : Nat) (x : Str) : Prop where
  ex : ∃ (fI : Addr) (fd : FuncData), OexC K (ca j) ∧ PySem.W.findIn K (.ref (ca j)) "__init__" = some (some (.ref fI)) ∧ PySem.W.typeIn K (.ref fI) = some (.type "function") ∧
    FnOk P w K mg base CX0 k fI fd ["self", "row"] (spInit K) ∧ Binds K fd ["self", "row"] [] ∧ PySem.W.findIn K (.ref (ca j)) "row" = some none ∧ mg x = some (.ref (ca j))
theorem msx_raiseR {X : Cx} {ca : Nat → Addr} {x : Str} {e : Expr} {fa : AF} {p pos pos' : Pos} {j k : Nat} (G : Xrow X.prog X.w X.K X.mg X.base ca k j x) (hr : Room (k + 1) X.A) (hc : X.calm = true) (ha : MA X [e] fa)
    (hg : Gl X x := by rfl) (hdb : (x == ("__debug__" : Str)) = false := by decide) (he : starEach [e] X.env = (false, eval e X.env) :: starEach [] X.env := by rfl) (hpl : (backTo pos (starEach [] X.env)).any (·.1) = false := by rfl) :
    MSx X ca (.Raise (some (.Call (.Name x p) [e] [] pos)) none pos') (xRaiseRow j fa) := by
  obtain ⟨fI, fd, T, iC, tI, F1, hb, hn, hm⟩ := G.ex
  exact msx_raiseRow hc T iC tI F1 hr hb hn hm ha hg hdb he hpl
theorem xrow_init {P : Program} {w : World} {K : PySem.W.Frag} {mg : Str → Option Value} {base : Heap} {x qual : Str} {st : Stmt} {f : Addr} {fd : FuncData} {k : Nat} {p1 p2 p3 p4 : Pos} (F : Fun K x qual st f fd) (S : FnScope ["self", "row"] ["self", "row"] (defScope st))
    (hb : defBody st = [.Assign [.Attribute (.Name "self" p1) "row" p2] (.Name "row" p3) p4]) (hv : ∀ y : Str, y = "self" ∨ y = "row" → (defScope st).names.lookup y = some .local) : FnOk P w K mg base CX0 (k + 1) f fd ["self", "row"] (spInit K) := by
  refine F.ok S (fun vs H Q E h => by obtain ⟨a, C, v, rfl, _⟩ := h; rfl) (fun cdv A outer s H vs Q E hr h => ?_)
  rw [hb]
  have e1 := hv "self" (.inl rfl)
  have e2 := hv "row" (.inr rfl)
  refine ⟨_, pss_one (ps_ost (pe_var (i := 0) rfl (.inl e1) (by decide) (by decide)) (pe_var (i := 1) rfl (.inl e2) (by decide) (by decide))), ?_⟩
  obtain ⟨a, C, v, rfl, T, hn, ha, k⟩ := h
  exact ⟨v, rfl, .ref a, rfl, a, C, rfl, T, hn, .inl ⟨ha, fun dx n ne => k dx n ne⟩⟩
/-! raising with a text -/
structure Xtxt (K : PySem.W.Frag) (mg : Str → Option Value) (ca : Nat → Addr) (j : Nat) (x : Str) : Prop where
  q : PySem.W.excIn K (ca j) [.type "ValueError", .type "Exception", .type "BaseException", .type "object"] "ValueError.__new__" = true
  hm : mg x = some (.ref (ca j))
  kC : PySem.W.keepIn K (.ref (ca j)) = true
  h1 : PySem.W.subIn K (.ref (ca j)) (.type "BaseException") = some true
  h2 : PySem.W.typeIn K (.ref (ca j)) = some (.type "type")
theorem msx_raiseT {X : Cx} {ca : Nat → Addr} {x m : Str} {jj : Nat} {p p2 pos pos' : Pos} {j : Nat} (G : Xtxt X.K X.mg ca j x) (hc : X.calm = true) (hg : Gl X x := by rfl) (hdb : (x == ("__debug__" : Str)) = false := by decide) :
    MSx X ca (.Raise (some (.Call (.Name x p) [.Constant (.str m) jj p2] [] pos)) none pos') (xRaise j) :=
  msx_raise hc PySem.F.excBase_ValueError G.q G.hm G.kC (raises_own G.h1 G.h2) hg hdb
/-! defs -/
structure Fnx (P : Program) (w : World) (K : PySem.W.Frag) (mg : Str → Option Value) (base : Heap) (ca : Nat → Addr) (k : Nat) (x : Str) (ps : List Str) (ff : FX) : Prop where
  ex : ∃ (f : Addr) (fd : FuncData), FnOk P w K mg base (L2.CX P w) k f fd ps (spX K ca ps.length ff) ∧ mg x = some (.ref f) ∧ PySem.W.keepIn K (.ref f) = true ∧ Binds K fd ps []
def noX (ff : FX) : FF := fun ds m => (ff ds m).bind fun p => match p.1 with
  | .inl d => some (d, p.2)
  | .inr _ => none
theorem noX_ok {P : Program} {w : World} {K : PySem.W.Frag} {mg : Str → Option Value} {base : Heap} {ca : Nat → Addr} {k n : Nat} {f : Addr} {fd : FuncData} {ps : List Str} {ff : FX} (F : FnOk P w K mg base (L2.CX P w) k f fd ps (spX K ca n ff)) : FnOk P w K mg base CX0 k f fd ps (spM K n (noX ff)) := by
  have conv : ∀ vs H Q E, spM K n (noX ff) vs H Q E → spX K ca n ff vs H Q (fun _ _ _ => False) := fun vs H Q E ⟨hl, V, ds, m, d, m', e, R, r, ef, kk⟩ => by
    unfold noX at ef
    obtain ⟨⟨r1, m1⟩, e1, ef⟩ := bind_some ef
    cases r1 with
    | inl d1 => cases ef; exact ⟨hl, V, ds, m, .inl d, _, e, R, r, e1, kk⟩
    | inr x => cases ef
  refine ⟨fun vs H Q E h => F.len _ _ _ _ (conv vs H Q E h), fun A outer s H args us vs Q E hr he hb hv hs => ?_⟩
  refine codeAny_mono (F.run A outer s H args us vs Q (fun _ _ _ => False) hr he hb hv (conv vs H Q E hs)) fun r s' q => ?_
  cases r with
  | error er => obtain ⟨_, _, _, _, _, _, _, _, _, _, _, _, z⟩ := q; exact z.elim
  | ok fl => cases fl with
    | ret u => exact q
    | next => exact q
    | brk => exact q
    | cont => exact q
section
variable {P : Program} {w : World} {K : PySem.W.Frag} {mg : Str → Option Value} {base : Heap} {ca : Nat → Addr}
theorem fnnx {x qual : Str} {st : Stmt} {f : Addr} {fd : FuncData} {N ps : List Str} {k : Nat} {b : XF} (F : Fun K x qual st f fd) (hm : mg x = some (.ref f)) (S : FnScope N ps (defScope st))
    (hbd : ∀ (kV doc pm : Value) (an : Option Addr) (cdv ct : Value) (us : List Value), us.length = ps.length → bindArgs (PySem.W.fnOf x qual (defArgs st) (defBody st) (defScope st) .none kV doc pm an cdv ct) ⟨us, []⟩ = pure (ps.zip us))
    (hb : ∀ (cdv : Value) (A : Around) (outer : List Env) (s : Shared) (H : Hp) (E : XK), Room k (A.deeper (PyProof.Rows.envOfC qual (defScope st) s.heap.objs.size f cdv)) →
      MSsx (cxOf (L2.CX P w) P w K mg base N qual (defScope st) f cdv A outer s H E) ca (defBody st) b) : Fnx P w K mg base ca (k + 1) x ps (fnX N.length b) := by
  exact ⟨f, fd, fnx_ok F S hb, hm, F.kp, F.binds hbd⟩
theorem fnn_noX {k : Nat} {x : Str} {ps : List Str} {ff : FX} (G : Fnx P w K mg base ca k x ps ff) : Fnn P w K mg base k x ps (noX ff) := by
  obtain ⟨f, fd, G, hm, hk, hb⟩ := G.ex
  exact ⟨f, fd, noX_ok G, hm, hk, hb⟩
end
section
variable {X : Cx} {ca : Nat → Addr} {k n : Nat} {ps : List Str} {ff : FX} {x : Str} {p pos : Pos} {e : Expr} {es : List Expr} {fa : AF}
theorem mex_f (G : Fnx X.prog X.w X.K X.mg X.base ca k x ps ff) (hr : Room k X.A) (ha : MA X (e :: es) fa)
    (hn : ps.length = n := by rfl) (hg : Gl X x := by rfl) (hdb : (x == ("__debug__" : Str)) = false := by decide) (he : starEach (e :: es) X.env = (false, eval e X.env) :: starEach es X.env := by rfl) (hpl : (backTo pos (starEach es X.env)).any (·.1) = false := by rfl) :
    MEx X ca (.Call (.Name x p) (e :: es) [] pos) (xFn n ff fa) := by
  obtain ⟨f, fd, G, hm, hk, hb⟩ := G.ex
  rw [hn] at G
  exact mex_fn G hr hm hk hb ha hg hdb he hpl
end
/-! rows -/
section
variable {S : Ms} {f g : XF} {fs : SF} {fe : XEF} {ee : EF} {fa : AF} {c : BF} {gf : GF} {ff : FX} {j n N : Nat} {m : Nat → Option Bool} {b : XF} {ds : List D} {mm : List Cell} {i : Nat}
@[simp] theorem xL_ap : xL fs S = (fs S).bind fun p => some (.fl p.1, p.2) := rfl
@[simp] theorem xNil_ap : xNil S = some (.fl .nx, S) := rfl
@[simp] theorem xSeq_ap : xSeq f g S = (f S).bind fun p => match p.1 with
  | .fl .nx => g p.2
  | x => some (x, p.2) := rfl
@[simp] theorem xIf_ap : xIf c f g S = (c S).bind fun p => if p.1 then f p.2 else g p.2 := rfl
@[simp] theorem xFor_ap : xFor fa gf f S = (fa S).bind fun p => xForM gf f p.1 p.2 := rfl
@[simp] theorem xForM_nil : xForM gf f [] S = some (.fl .nx, S) := rfl
theorem xForM_cons {d : D} : xForM gf f (d :: ds) S = (gf d S).bind fun S1 => (f S1).bind fun p => match p.1 with
    | .fl .nx => xForM gf f ds p.2
    | .fl .ct => xForM gf f ds p.2
    | .fl .bk => some (.fl .nx, p.2)
    | x => some (x, p.2) := rfl
@[simp] theorem xAsg_ap : xAsg fe gf S = (fe S).bind fun p => match p.1 with
  | .inl d => (gf d p.2).bind fun S' => some (.fl .nx, S')
  | .inr e => some (.ex e, p.2) := rfl
@[simp] theorem xExpr_ap : xExpr fe S = (fe S).bind fun p => match p.1 with
  | .inl _ => some (.fl .nx, p.2)
  | .inr e => some (.ex e, p.2) := rfl
@[simp] theorem xRet_ap : xRet fe S = (fe S).bind fun p => match p.1 with
  | .inl d => some (.fl (.rt d), p.2)
  | .inr e => some (.ex e, p.2) := rfl
@[simp] theorem xeL_ap : xeL ee S = (ee S).bind fun p => some (.inl p.1, p.2) := rfl
@[simp] theorem xFn_ap : xFn n ff fa S = (fa S).bind fun p => if p.1.length = n then (ff p.1 p.2.m).bind fun q => some (q.1, ⟨p.2.r, q.2⟩) else none := rfl
@[simp] theorem xRaise_ap : xRaise j S = some (.ex ⟨j, none⟩, S) := rfl
@[simp] theorem xRaiseRow_ap : xRaiseRow j fa S = (fa S).bind fun p => match p.1 with
  | [d] => some (.ex ⟨j, some d⟩, p.2)
  | _ => none := rfl
@[simp] theorem xTry_ap {hd : Ex → SF} : xTry m f hd S = (f S).bind fun p => match p.1 with
  | .ex e => match m e.i with
    | some true => (hd e p.2).bind fun q => some (.fl q.1, q.2)
    | some false => some (.ex e, p.2)
    | none => none
  | x => some (x, p.2) := rfl
@[simp] theorem xTryAs_ap {hd : Ex → Option Fl} : xTryAs m i f hd S = (f S).bind fun p => match p.1 with
  | .ex e => match m e.i with
    | some true => if i < p.2.r.length then (hd e).bind fun fl => some (.fl fl, ⟨p.2.r.set i .emp, p.2.m⟩) else none
    | some false => some (.ex e, p.2)
    | none => none
  | x => some (x, p.2) := rfl
theorem fnX_ap : fnX N b ds mm = (b ⟨ds.map Slot.val ++ List.replicate (N - ds.length) .emp, mm⟩).bind fun p => match p.1 with
  | .fl (.rt d) => some (.inl d, p.2.m)
  | .fl .nx => some (.inl .non, p.2.m)
  | .ex e => some (.inr e, p.2.m)
  | _ => none := rfl
theorem noX_ap : noX ff ds mm = (ff ds mm).bind fun p => match p.1 with
  | .inl d => some (d, p.2)
  | .inr _ => none := rfl
end
end M

/-! M23: list(range(..)) -/
namespace M
open PySem PySem.Spec L2 PyProof.Rows
def cLr2 (f g : EF) : CF := fun S => (f S).bind fun p => (g p.2).bind fun q => match p.1, q.1 with
  | .int a, .int b => if -1000000 ≤ a ∧ a ≤ 1000000 ∧ -1000000 ≤ b ∧ b ≤ 1000000 then some (.lst (rngD a (b - a).toNat), q.2) else none
  | _, _ => none
def cLr1 (g : EF) : CF := fun S => (g S).bind fun q => match q.1 with
  | .int b => if -1000000 ≤ b ∧ b ≤ 1000000 then some (.lst (rngD 0 b.toNat), q.2) else none
  | _ => none
theorem rvs_rg {K : PySem.W.Frag} {F : Hp} {io : List Addr} (a b : Int) : RVs K F io (rgV a b) (rngD a (b - a).toNat) := by
  unfold rgV rngD
  generalize (b - a).toNat = n
  have : ∀ l : List Nat, RVs K F io (l.map fun i : Nat => V.int (a + (i : Nat))) (l.map fun i : Nat => D.int (a + (i : Nat))) := by
    intro l
    induction l with
    | nil => exact .nil
    | cons i l ih => exact .cons (.int _) ih
  exact this _
section
variable {X : Cx} {a b : Expr} {fa fb : EF} {p p2 pos : Pos}
theorem mf_lr2 (hc : X.calm = true) (hl : X.mg "list" = none) (hm : X.mg "range" = none) (ha : ME X a fa) (hb : ME X b fb) (hgl : Gl X "list" := by rfl) (hg : Gl X "range" := by rfl)
    (na : starEach [a, b] X.env = (false, eval a X.env) :: starEach [b] X.env := by rfl) (nb : starEach [b] X.env = (false, eval b X.env) :: starEach [] X.env := by rfl) (hp : (backTo p2 (starEach [b] X.env)).any (·.1) = false := by rfl)
    (ne : starEach [.Call (.Name "range" p) [a, b] [] p2] X.env = (false, eval (.Call (.Name "range" p) [a, b] [] p2) X.env) :: starEach [] X.env := by rfl) {p3 : Pos} : MF X (.Call (.Name "list" p3) [.Call (.Name "range" p) [a, b] [] p2] [] pos) (cLr2 fa fb) := by
  obtain ⟨ta, pa, qa⟩ := ha
  obtain ⟨tb, pb, qb⟩ := hb
  refine ⟨_, pe_listRg hc hgl hl (prg_2 hg hm pa pb na nb hp) ne, fun S c S' h W s Q R k => ?_⟩
  obtain ⟨⟨d1, S1⟩, e1, h⟩ := bind_some h
  obtain ⟨⟨d2, S2⟩, e2, h⟩ := bind_some h
  cases d1 with
  | int i => cases d2 with
    | int j =>
      simp only at h
      split at h
      · rename_i hb
        cases h
        refine qa S _ _ e1 W s _ R fun v W1 R1 f1 r1 => ?_
        refine qb S1 _ _ e2 W1 s _ R1 fun v2 W2 R2 f2 r2 => ?_
        cases r1.int_inv
        cases r2.int_inv
        refine ⟨i, j, rfl, rfl, ⟨by omega, by omega, by omega, by omega, by omega⟩, fun q nq => ?_⟩
        obtain ⟨R3, f3, n3⟩ := R2.newLst (vs := rgV i j) nq (rvs_rg i j)
        have hq : W.H q = none := f1.hp q (f2.hp q nq)
        exact k q _ R3 ((f1.trans f2).trans f3) hq n3
      · cases h
    | _ => cases h
  | _ => cases h
theorem mf_lr1 (hc : X.calm = true) (hl : X.mg "list" = none) (hm : X.mg "range" = none) (hb : ME X b fb) (hgl : Gl X "list" := by rfl) (hg : Gl X "range" := by rfl)
    (nb : starEach [b] X.env = (false, eval b X.env) :: starEach [] X.env := by rfl)
    (ne : starEach [.Call (.Name "range" p) [b] [] p2] X.env = (false, eval (.Call (.Name "range" p) [b] [] p2) X.env) :: starEach [] X.env := by rfl) {p3 : Pos} : MF X (.Call (.Name "list" p3) [.Call (.Name "range" p) [b] [] p2] [] pos) (cLr1 fb) := by
  obtain ⟨tb, pb, qb⟩ := hb
  refine ⟨_, pe_listRg hc hgl hl (prg_1 hg hm pb nb) ne, fun S c S' h W s Q R k => ?_⟩
  obtain ⟨⟨d2, S2⟩, e2, h⟩ := bind_some h
  cases d2 with
  | int j =>
    simp only at h
    split at h
    · rename_i hb
      cases h
      refine qb S _ _ e2 W s _ R fun v2 W2 R2 f2 r2 => ?_
      cases r2.int_inv
      refine ⟨j, rfl, ⟨by omega, by omega, by omega, by omega, by omega⟩, fun q nq => ?_⟩
      have hr := rvs_rg (K := X.K) (F := W2.F) (io := W2.io) 0 j
      rw [show (j - 0).toNat = j.toNat by omega] at hr
      obtain ⟨R3, f3, n3⟩ := R2.newLst (vs := rgV 0 j) nq hr
      exact k q _ R3 (f2.trans f3) (f2.hp q nq) n3
    · cases h
  | _ => cases h
variable {S : Ms}
@[simp] theorem cLr2_ap : cLr2 fa fb S = (fa S).bind fun p => (fb p.2).bind fun q => match p.1, q.1 with
  | .int a, .int b => if -1000000 ≤ a ∧ a ≤ 1000000 ∧ -1000000 ≤ b ∧ b ≤ 1000000 then some (.lst (rngD a (b - a).toNat), q.2) else none
  | _, _ => none := rfl
@[simp] theorem cLr1_ap : cLr1 fb S = (fb S).bind fun q => match q.1 with
  | .int b => if -1000000 ≤ b ∧ b ≤ 1000000 then some (.lst (rngD 0 b.toNat), q.2) else none
  | _ => none := rfl
end
end M

/-! M24: dicts behind any expression, zip, properties, keyword-only defaults, isinstance of two built-in types -/
namespace M
open PySem PySem.Spec L2 PyProof.Rows
/-- the dict (keys ints or texts) that d tells -/
def dKAt (S : Ms) (d : D) : Option (Nat × List (Key × D)) := match d with
  | .ref k => match S.m[k]? with
    | some (.dct kds) => some (k, kds)
    | _ => none
  | _ => none
theorem dKAt_ok {K : PySem.W.Frag} {W : Wd} {S : Ms} {s : L2.St} {d : D} {v : V} {k : Nat} {kds : List (Key × D)} (R : Rel K W S s) (r : RV K W.F W.io v d) (h : dKAt S d = some (k, kds)) :
    d = .ref k ∧ ∃ a kvs, v = .ref a ∧ W.io[k]? = some a ∧ W.H a = some (.dK kvs) ∧ RVk K W.F W.io kvs kds := by
  unfold dKAt at h
  split at h
  · rename_i k0
    split at h
    · rename_i kds' e
      cases h
      obtain ⟨a, rfl, e1⟩ := r.ref_inv
      obtain ⟨kvs, h1, h2⟩ := R.cells _ _ a e e1
      exact ⟨rfl, a, kvs, rfl, e1, h1, h2⟩
    · cases h
  · cases h
def gSubKE (fo fi : EF) : GF := fun d S => (fo S).bind fun p => (fi p.2).bind fun q => (dKAt q.2 p.1).bind fun r => (putAt d q.1 r.2).bind fun es => some ⟨q.2.r, q.2.m.set r.1 (.dct es)⟩
def bDInK (neg : Bool) (fi fo : EF) : BF := fun S => (fi S).bind fun p => (fo p.2).bind fun q => (dKAt q.2 q.1).bind fun r => (keyD p.1).bind fun k => some (xor neg (lkK r.2 k).isSome, q.2)
section
variable {X : Cx} {pos : Pos} {o ie i : Expr} {fo fi : EF}
theorem mg_subKE (hu : X.A.units + 1 < cLine) (ho : ME X o fo) (hi : ME X ie fi)
    (ha : ∀ v, assign (.Subscript o ie pos) X.env v = (do
      let ov ← holding [v] (eval o X.env)
      let iv ← holding [v, ov] (eval ie X.env)
      standAt pos
      holding [v, ov, iv] (setItem ov iv v)
      release [v, ov, iv] []) := by intro _; rfl) : MG X (.Subscript o ie pos) (gSubKE fo fi) := by
  obtain ⟨t, p, q⟩ := ho
  obtain ⟨t2, p2, q2⟩ := hi
  refine ⟨_, pg_sub p p2 (set_dict hu) ha, fun d S S' h W s v Q R r k => ?_⟩
  obtain ⟨⟨d1, S1⟩, e1, h⟩ := bind_some h
  obtain ⟨⟨d2, S2⟩, e2, h⟩ := bind_some h
  obtain ⟨⟨k1, kds⟩, e3, h⟩ := bind_some h
  obtain ⟨es, e4, h⟩ := bind_some h
  cases h
  refine q S _ _ e1 W s _ R fun y W1 R1 f1 r1 => ?_
  refine q2 S1 _ _ e2 W1 s _ R1 fun z W2 R2 f2 r2 => ?_
  obtain ⟨_, a, vs, rfl, hio, g1, g2⟩ := dKAt_ok R2 (r1.up f2) e3
  obtain ⟨key, ek, e4⟩ := bind_some e4
  split at e4
  · rename_i hl
    cases e4
    obtain ⟨R3, f3⟩ := R2.wrCell (o := .dK (putK vs key v)) hio (c' := .dct (ptK kds key d)) ⟨_, upd_same, g2.put ((r.up f1).up f2)⟩
    refine ⟨a, _, rfl, ?_, k (W2.wr a _) _ R3 ((f1.trans f2).trans f3)⟩
    rw [keyD_rv ek r2]
    exact .k g1 (by rw [g2.len]; exact Nat.lt_of_lt_of_le hl lim_line)
  · cases e4
theorem lkK_isSome {K : PySem.W.Frag} {F : Hp} {io : List Addr} {kvs : List (Key × V)} {kds : List (Key × D)} (r : RVk K F io kvs kds) (k : Key) : (lkK kds k).isSome = (valV kvs k).isSome := by
  obtain ⟨i1, i2⟩ := r.look (k := k)
  cases e : lkK kds k with
  | none => rw [i1 e]; rfl
  | some d => obtain ⟨v, e2, _⟩ := i2 d e; rw [e2]; rfl
theorem mt_dinK (hu : X.A.units + 1 < cLine) (hi : ME X i fi) (ho : ME X o fo) (h1 : behindInMarks .In o = false := by rfl) : MT X (.Compare i [.In] [o] pos) (bDInK false fi fo) := by
  obtain ⟨t, p, q⟩ := ho
  obtain ⟨t2, p2, q2⟩ := hi
  refine ⟨_, pt_cmp (pc_din hu p2 p) h1, fun S d S' h W s Q R k => ?_⟩
  obtain ⟨⟨d1, S1⟩, e1, h⟩ := bind_some h
  obtain ⟨⟨d2, S2⟩, e2, h⟩ := bind_some h
  obtain ⟨⟨k1, kds⟩, e3, h⟩ := bind_some h
  obtain ⟨key, ek, h⟩ := bind_some h
  cases h
  refine q2 S _ _ e1 W s _ R fun y W1 R1 f1 r1 => ?_
  refine q S1 _ _ e2 W1 s _ R1 fun v W2 R2 f2 r2 => ?_
  obtain ⟨_, a, kvs, rfl, _, g1, g2⟩ := dKAt_ok R2 r2 e3
  refine ⟨a, valV kvs key, rfl, .inl ⟨kvs, key, .inl g1, keyD_rv ek r1, rfl⟩, _, rfl, ?_⟩
  have := k W2 R2 (f1.trans f2)
  rw [lkK_isSome g2] at this
  simpa using this
end
/-! zip -/
def zpD (xs ys : List D) : List D := List.zipWith (fun x y => D.tup [x, y]) xs ys
def zipD : D → D → Option (List D)
  | .lst xs, .lst ys => some (zpD xs ys)
  | .lst xs, .sc ys => some (zpD xs ys)
  | .sc xs, .lst ys => some (zpD xs ys)
  | .sc xs, .sc ys => some (zpD xs ys)
  | .tup xs, .tup ys => some (zpD xs ys)
  | _, _ => none
def iZip (fa fb : EF) : AF := fun S => (fa S).bind fun p => (fb p.2).bind fun q => (zipD p.1 q.1).bind fun ds => some (ds, q.2)
theorem zp_get {xs ys : List D} {i : Nat} {d : D} (h : (zpD xs ys)[i]? = some d) : ∃ x y, xs[i]? = some x ∧ ys[i]? = some y ∧ d = .tup [x, y] := by
  unfold zpD at h
  rw [List.getElem?_zipWith] at h
  split at h
  · rename_i x y e1 e2
    cases h
    exact ⟨x, y, e1, e2, rfl⟩
  · cases h
theorem yl_zipL {K : PySem.W.Frag} {W : Wd} {a b : Addr} {vs ws : List V} {xs ys : List D} (h : ∀ W2 : Wd, (∀ a o, W.F a = some o → W2.F a = some o) → (∀ a o, W2.F a = some o → W2.H a = some o) → SqL K W2.H a vs ∧ SqL K W2.H b ws) (r1 : RVs K W.F W.io vs xs) (r2 : RVs K W.F W.io ws ys) : Yl K (Itz K a b) W (zpD xs ys) := by
  refine ⟨fun W2 S s R hF hi i d e => ?_, fun W2 S s R hF hi => ?_⟩
  · obtain ⟨x, y, ex, ey, rfl⟩ := zp_get e
    obtain ⟨v, ev, rv⟩ := r1.get ex
    obtain ⟨w, ew, rw'⟩ := r2.get ey
    obtain ⟨h1, h2⟩ := h W2 hF R.sub
    refine ⟨⟨vs, ws, v, w, h1, h2, ev, ew⟩, fun z H' hy => ?_⟩
    obtain ⟨T, x', y', rfl, hT, rfl, f1, f2⟩ := hy
    have g1 := f1 vs h1
    have g2 := f2 ws h2
    rw [ev] at g1
    rw [ew] at g2
    cases g1
    cases g2
    obtain ⟨R2, f3⟩ := R.al (o := .tup [v, w]) hT
    exact ⟨_, rfl, R2, f3, .tup (.of upd_same) (.cons ((rv.mono hF hi).up f3) (.cons ((rw'.mono hF hi).up f3) .nil))⟩
  · obtain ⟨h1, h2⟩ := h W2 hF R.sub
    refine ⟨vs, ws, h1, h2, ?_⟩
    rw [r1.length, r2.length]
    unfold zpD
    rw [List.length_zipWith]
    omega
theorem yl_zipT {K : PySem.W.Frag} {W : Wd} {a b : Addr} {vs ws : List V} {xs ys : List D} (h : ∀ W2 : Wd, (∀ a o, W.F a = some o → W2.F a = some o) → (∀ a o, W2.F a = some o → W2.H a = some o) → SqT K W2.H a vs ∧ SqT K W2.H b ws) (r1 : RVs K W.F W.io vs xs) (r2 : RVs K W.F W.io ws ys) : Yl K (RZ.ItzT K a b) W (zpD xs ys) := by
  refine ⟨fun W2 S s R hF hi i d e => ?_, fun W2 S s R hF hi => ?_⟩
  · obtain ⟨x, y, ex, ey, rfl⟩ := zp_get e
    obtain ⟨v, ev, rv⟩ := r1.get ex
    obtain ⟨w, ew, rw'⟩ := r2.get ey
    obtain ⟨h1, h2⟩ := h W2 hF R.sub
    refine ⟨⟨vs, ws, v, w, h1, h2, ev, ew⟩, fun z H' hy => ?_⟩
    obtain ⟨T, x', y', rfl, hT, rfl, f1, f2⟩ := hy
    have g1 := f1 vs h1
    have g2 := f2 ws h2
    rw [ev] at g1
    rw [ew] at g2
    cases g1
    cases g2
    obtain ⟨R2, f3⟩ := R.al (o := .tup [v, w]) hT
    exact ⟨_, rfl, R2, f3, .tup (.of upd_same) (.cons ((rv.mono hF hi).up f3) (.cons ((rw'.mono hF hi).up f3) .nil))⟩
  · obtain ⟨h1, h2⟩ := h W2 hF R.sub
    refine ⟨vs, ws, h1, h2, ?_⟩
    rw [r1.length, r2.length]
    unfold zpD
    rw [List.length_zipWith]
    omega
theorem sql_inv {K : PySem.W.Frag} {W : Wd} {v : V} {d : D} {xs : List D} (r : RV K W.F W.io v d) (h : d = .lst xs ∨ d = .sc xs) : ∃ a vs, v = .ref a ∧ RVs K W.F W.io vs xs ∧ ∀ H : Hp, (∀ a o, W.F a = some o → H a = some o) → SqL K H a vs := by
  rcases h with rfl | rfl
  · obtain ⟨a, vs, rfl, h1, h2⟩ := r.lst_inv
    exact ⟨a, vs, rfl, h2, fun H hs => .of (hs _ _ h1)⟩
  · obtain ⟨a, vs, rfl, h1, h2⟩ := r.sc_inv
    exact ⟨a, vs, rfl, h2, fun H hs => sqL_mono hs h1⟩
theorem mi_zip {X : Cx} {elts : List Expr} {kk : Nat} {a b : Expr} {fa fb : EF} {p pos tpos : Pos} (hg : Gl X "zip") (hm : X.mg "zip" = none) (ha : ME X a fa) (hb : ME X b fb)
    (hs3 : starEach [a, b] X.env = (false, eval a X.env) :: starEach [b] X.env := by rfl) (hs4 : starEach [b] X.env = (false, eval b X.env) :: starEach [] X.env := by rfl) (hpl : (backTo pos (starEach [b] X.env)).any (·.1) = false := by rfl) :
    MI X (.Tuple elts kk tpos) (.Call (.Name "zip" p) [a, b] [] pos) (iZip fa fb) := by
  obtain ⟨t, q1, q⟩ := ha
  obtain ⟨t', q2, q'⟩ := hb
  refine ⟨_, RZ.pi_zipA hg hm (pa_cons q1 (pa_cons q2 pa_nil hs4) hs3) hs3 hpl, fun S ds S' h W s Rr R k => ?_⟩
  obtain ⟨⟨d1, S1⟩, e1, h⟩ := bind_some h
  obtain ⟨⟨d2, S2⟩, e2, h⟩ := bind_some h
  obtain ⟨zs, e3, h⟩ := bind_some h
  cases h
  refine q S _ _ e1 W s _ R fun v W1 R1 f1 r1 => ?_
  refine q' S1 _ _ e2 W1 s _ R1 fun v2 W2 R2 f2 r2 => ?_
  have r1' := r1.up f2
  simp only at e3
  have lists : ∀ xs ys, (d1 = .lst xs ∨ d1 = .sc xs) → (d2 = .lst ys ∨ d2 = .sc ys) → ds = zpD xs ys → ∃ a b xs ys, [v, v2] = [V.ref a, V.ref b] ∧ ((SqL X.K W2.H a xs ∧ SqL X.K W2.H b ys ∧ Rr (Itz X.K a b) W2.H) ∨ (SqT X.K W2.H a xs ∧ SqT X.K W2.H b ys ∧ Rr (RZ.ItzT X.K a b) W2.H)) := fun xs ys h1 h2 e => by
    subst e
    obtain ⟨a', vs, rfl, s1, g1⟩ := sql_inv r1' h1
    obtain ⟨b', ws, rfl, s2, g2⟩ := sql_inv r2 h2
    exact ⟨a', b', vs, ws, rfl, .inl ⟨g1 _ R2.sub, g2 _ R2.sub, k _ W2 R2 (f1.trans f2) (yl_zipL (fun W3 hF hs => ⟨g1 _ fun a o h => hs _ _ (hF _ _ h), g2 _ fun a o h => hs _ _ (hF _ _ h)⟩) s1 s2)⟩⟩
  unfold zipD at e3
  split at e3
  · cases e3; exact lists _ _ (.inl rfl) (.inl rfl) rfl
  · cases e3; exact lists _ _ (.inl rfl) (.inr rfl) rfl
  · cases e3; exact lists _ _ (.inr rfl) (.inl rfl) rfl
  · cases e3; exact lists _ _ (.inr rfl) (.inr rfl) rfl
  · cases e3
    obtain ⟨a', vs, rfl, h1, s1⟩ := r1'.tup_inv
    obtain ⟨b', ws, rfl, h2, s2⟩ := r2.tup_inv
    exact ⟨a', b', vs, ws, rfl, .inr ⟨sqT_mono R2.sub h1, sqT_mono R2.sub h2, k _ W2 R2 (f1.trans f2) (yl_zipT (fun W3 hF hs => ⟨sqT_mono hs (sqT_mono hF h1), sqT_mono hs (sqT_mono hF h2)⟩) s1 s2)⟩⟩
  · cases e3
/-! properties -/
def eProp (C : Addr) (ff : FF) (fo : EF) : EF := fun S => (fo S).bind fun p => (objAt C p.2 p.1).bind fun q => (ff [p.1] p.2.m).bind fun r => some (r.1, ⟨p.2.r, r.2⟩)
structure Fpp (P : Program) (w : World) (K : PySem.W.Frag) (mg : Str → Option Value) (base : Heap) (k : Nat) (C : Addr) (f : Str) (ps : List Str) (ff : FF) : Prop where
  ex : ∃ (p g : Addr) (fd : FuncData), PropOf K C f p g ∧ FnOk P w K mg base CX0 k g fd ps (spM K ps.length ff) ∧ Binds K fd ps []
theorem me_prop {X : Cx} {C : Addr} {k : Nat} {f y : Str} {ff : FF} {e : Expr} {fe : EF} {pos : Pos} (c : Cls X.K C) (G : Fpp X.prog X.w X.K X.mg X.base k C f [y] ff) (hr : Room (k + 1) X.A) (ho : ME X e fe)
    (hab : attributeBase e f X.env (eval e X.env) = eval e X.env := by rfl) : ME X (.Attribute e f pos) (eProp C ff fe) := by
  obtain ⟨t, p, q⟩ := ho
  obtain ⟨pa, g, fd, hp, F, B⟩ := G.ex
  refine ⟨_, pe_prop p c hp F hr B .nil pass0 hab, fun S d S' h W s Q R kk => ?_⟩
  obtain ⟨⟨d1, S1⟩, e1, h⟩ := bind_some h
  obtain ⟨⟨k1, fs⟩, e2, h⟩ := bind_some h
  obtain ⟨⟨d2, m2⟩, e3, h⟩ := bind_some h
  cases h
  refine q S _ _ e1 W s _ R fun v W1 R1 f1 r1 => ?_
  obtain ⟨_, _, b, dx, fv, rfl, hio, h1, h2⟩ := objAt_ok R1 r1 e2
  refine ⟨b, dx, fv, rfl, h1, ?_⟩
  refine ⟨rfl, W1, _, S1.m, _, _, rfl, R1.bare, .cons r1 .nil, e3, fun v2 W3 R3 f3 r3 => ?_⟩
  obtain ⟨R4, f4⟩ := R1.back R3 f3
  exact kk v2 W3 R4 (f1.trans f4) r3
/-! a def with defaults for what is not written -/
structure Fnd (P : Program) (w : World) (K : PySem.W.Frag) (mg : Str → Option Value) (base : Heap) (k : Nat) (x : Str) (ps : List Str) (ff : FF) (dds : List D) : Prop where
  ex : ∃ (f : Addr) (fd : FuncData) (dvs : List V) (ds : List Value), FnOk P w K mg base CX0 k f fd ps (spM K ps.length ff) ∧ mg x = some (.ref f) ∧ PySem.W.keepIn K (.ref f) = true ∧ Binds K fd ps ds ∧ Vals dvs ds ∧ ∀ (F : Hp) (io : List Addr), RVs K F io dvs dds
def eFnD (n : Nat) (ff : FF) (dds : List D) (fa : AF) : EF := fun S => (fa S).bind fun p => if p.1.length + dds.length = n then (ff (p.1 ++ dds) p.2.m).bind fun q => some (q.1, ⟨p.2.r, q.2⟩) else none
theorem rvs_app {K : PySem.W.Frag} {F : Hp} {io : List Addr} {ds2 : List D} {vs2 : List V} (h2 : RVs K F io vs2 ds2) : ∀ {vs : List V} {ds : List D}, RVs K F io vs ds → RVs K F io (vs ++ vs2) (ds ++ ds2)
  | _, _, .nil => h2
  | _, _, .cons a t => .cons a (rvs_app h2 t)
theorem me_fd {X : Cx} {k n : Nat} {ps : List Str} {ff : FF} {dds : List D} {x : Str} {p pos : Pos} {e : Expr} {es : List Expr} {fa : AF} (G : Fnd X.prog X.w X.K X.mg X.base k x ps ff dds) (hr : Room k X.A) (ha : MA X (e :: es) fa)
    (hn : ps.length = n := by rfl) (hg : Gl X x := by rfl) (hdb : (x == ("__debug__" : Str)) = false := by decide) (he : starEach (e :: es) X.env = (false, eval e X.env) :: starEach es X.env := by rfl) (hpl : (backTo pos (starEach es X.env)).any (·.1) = false := by rfl) :
    ME X (.Call (.Name x p) (e :: es) [] pos) (eFnD n ff dds fa) := by
  obtain ⟨f, fd, dvs, dsv, G, hm, hk, hb, hv, hd⟩ := G.ex
  rw [hn] at G
  obtain ⟨t, pt, q⟩ := ha
  refine ⟨_, pe_call G hr hg hm hk hb hv pass0 pt hdb he hpl, fun S d S' h W s Q R kk => ?_⟩
  obtain ⟨⟨ds, S1⟩, e1, h⟩ := bind_some h
  simp only at h
  split at h
  · rename_i hl
    obtain ⟨⟨d2, m2⟩, e2, h⟩ := bind_some h
    cases h
    refine q S _ _ e1 W s _ R fun vs W1 R1 f1 r1 => ?_
    have r2 := rvs_app (hd W1.F W1.io) r1
    refine ⟨by rw [r2.length, List.length_append]; exact hl, W1, _, S1.m, _, _, rfl, R1.bare, r2, e2, fun v2 W3 R3 f3 r3 => ?_⟩
    obtain ⟨R4, f4⟩ := R1.back R3 f3
    exact kk v2 W3 R4 (f1.trans f4) r3
  · cases h
section
variable {P : Program} {w : World} {K : PySem.W.Frag} {mg : Str → Option Value} {base : Heap}
theorem fpp {x qual : Str} {st : Stmt} {f C : Addr} {fd : FuncData} {N ps : List Str} {k : Nat} {b : SF} (F : Fun K x qual st f fd) (hp : ∃ p, PropOf K C x p f) (S : FnScope N ps (defScope st))
    (hbi : ∀ (kV doc pm : Value) (an : Option Addr) (cdv ct : Value) (us : List Value), us.length = ps.length → bindArgs (PySem.W.fnOf x qual (defArgs st) (defBody st) (defScope st) .none kV doc pm an cdv ct) ⟨us, []⟩ = pure (ps.zip us))
    (hb : ∀ (cdv : Value) (A : Around) (outer : List Env) (s : Shared) (H : Hp) (E : XK), Room k (A.deeper (PyProof.Rows.envOfC qual (defScope st) s.heap.objs.size f cdv)) →
      MSs (cxOf CX0 P w K mg base N qual (defScope st) f cdv A outer s H E).nox (defBody st) b) : Fpp P w K mg base (k + 1) C x ps (fnM N.length b) := by
  obtain ⟨p, hp⟩ := hp
  exact ⟨p, f, fd, hp, fn_ok F S hb, F.binds hbi⟩
/-- K holds an empty tuple at T -/
def KNil (K : PySem.W.Frag) (T : Addr) : Prop := ∃ (dd : Option Addr) (its : Array Value) (n : Nat) (sl : Array (Option Value)), K.lookup T = some ⟨.type "tuple", dd, .seq its n, sl⟩ ∧ its.size = 0
theorem fnd {x qual y : Str} {st : Stmt} {f T : Addr} {fd : FuncData} {N ps : List Str} {k : Nat} {b : SF} (F : Fun K x qual st f fd) (FD : FunD K x qual (defArgs st) (defBody st) (defScope st) [] [(y, .ref T)] f fd) (hT : KNil K T) (hm : mg x = some (.ref f)) (S : FnScope N ps (defScope st)) (n : Nat) (hn : n + 1 = ps.length)
    (hch : ∀ (D : Addr) (doc pm : Value) (an : Option Addr) (cdv ct : Value) (us ks : List Value), us.length = n → ks.length = 1 → KwChain D ([y].zip ks) (bindArgs (PySem.W.fnOf x qual (defArgs st) (defBody st) (defScope st) .none (.ref D) doc pm an cdv ct) ⟨us, []⟩) (ps.zip (us ++ ks)))
    (hb : ∀ (cdv : Value) (A : Around) (outer : List Env) (s : Shared) (H : Hp) (E : XK), Room k (A.deeper (PyProof.Rows.envOfC qual (defScope st) s.heap.objs.size f cdv)) →
      MSs (cxOf CX0 P w K mg base N qual (defScope st) f cdv A outer s H E).nox (defBody st) b) : Fnd P w K mg base (k + 1) x ps (fnM N.length b) [.tup []] := by
  obtain ⟨ds, hv, hb2⟩ := FD.binds0 n (by simp) hn hch
  obtain ⟨dd, its, m, sl, hl, hz⟩ := hT
  refine ⟨f, fd, [.ref T], ds, fn_ok F S hb, hm, F.kp, hb2, hv, fun F' io => .cons (.tup (vs := []) (.inr ⟨_, its, m, hl, rfl, rfl, by rw [hz]; exact Nat.zero_le _, ?_⟩) .nil) .nil⟩
  have : its.toList = [] := List.eq_nil_of_length_eq_zero (by simpa using hz)
  rw [this]; exact .nil
end
/-! isinstance(e, (T, U)) -/
def gIsi2 (T U : String) (d : D) : Option D := (tyName d).bind fun n => (kitB n T).bind fun b => if b = true then some (.bl true) else (kitB n U).bind fun c => some (.bl c)
def eIsi2 (T U : String) (f : EF) : EF := fun S => (f S).bind fun p => (gIsi2 T U (vw p.2 p.1)).bind fun z => some (z, p.2)
theorem me_isi2 {X : Cx} {pos tpos : Pos} {tk : Nat} {e : Expr} {y z : Str} {T U : String} {f : EF} {p yp zp : Pos} (hg : Gl X "isinstance") (hm : X.mg "isinstance" = none) (hgy : Gl X y) (hmy : X.mg y = none) (hv : bootBuiltins y = some (.type T)) (hgz : Gl X z) (hmz : X.mg z = none) (hvz : bootBuiltins z = some (.type U)) (ha : ME X e f)
    (hb : bootBuiltins "isinstance" = some (.builtin "isinstance") := by decide +kernel) (hny : y ≠ "__name__" := by decide) (hdy : (y == ("__debug__" : Str)) = false := by decide) (hnz : z ≠ "__name__" := by decide) (hdz : (z == ("__debug__" : Str)) = false := by decide) (hn : ("isinstance" : Str) ≠ "__name__" := by decide)
    (hs : starEach [e, .Tuple [.Name y yp, .Name z zp] tk tpos] X.env = (false, eval e X.env) :: starEach [.Tuple [.Name y yp, .Name z zp] tk tpos] X.env := by rfl) (hpl : (backTo pos (starEach [.Tuple [.Name y yp, .Name z zp] tk tpos] X.env)).any (·.1) = false := by rfl)
    (hs2 : starEach [.Tuple [.Name y yp, .Name z zp] tk tpos] X.env = (false, eval (.Tuple [.Name y yp, .Name z zp] tk tpos) X.env) :: starEach [] X.env := by rfl)
    (hs3 : starEach [.Name y yp, .Name z zp] X.env = (false, eval (.Name y yp) X.env) :: starEach [.Name z zp] X.env := by rfl) (hs4 : starEach [.Name z zp] X.env = (false, eval (.Name z zp) X.env) :: starEach [] X.env := by rfl) : ME X (.Call (.Name "isinstance" p) [e, .Tuple [.Name y yp, .Name z zp] tk tpos] [] pos) (eIsi2 T U f) := by
  obtain ⟨t, q1, q⟩ := ha
  refine ⟨_, pe_callB call_isiT hg hm hb (pa_cons q1 (pa_cons (pe_tup (pa_cons (pe_bltn (v := .ty T) hgy hmy hv rfl hny hdy) (pa_cons (pe_bltn (v := .ty U) hgz hmz hvz rfl hnz hdz) pa_nil hs4) hs3)) pa_nil hs2) hs) hn (by decide) hs hpl, fun S d S' hz W s Q R k => ?_⟩
  obtain ⟨⟨d1, S1⟩, e1, hz⟩ := bind_some hz
  obtain ⟨w, e2, hz⟩ := bind_some hz
  cases hz
  refine q S _ _ e1 W s _ R fun v W1 R1 f1 r1 => ?_
  obtain ⟨n, e3, e2⟩ := bind_some e2
  obtain ⟨b, e4, e2⟩ := bind_some e2
  refine ⟨Nat.le_of_ble_eq_true rfl, fun tp hp => ?_⟩
  obtain ⟨R2, f2⟩ := R1.al (o := .tup [.ty T, .ty U]) hp
  have rh : RH X.K (W1.al tp (.tup [.ty T, .ty U])) v (vw S1 d1) := R2.vw (r1.up f2)
  have ty : TyX X.K (W1.al tp (.tup [.ty T, .ty U])).H v (.type n) := tyh R2 rh e3
  show rIsiT X.K [v, .ref tp] (W1.al tp (.tup [.ty T, .ty U])).H Q
  cases b with
  | true =>
    rw [if_pos rfl] at e2
    cases e2
    exact ⟨v, tp, _, .type n, [.type T, .type U], true, rfl, upd_same, .cons (.ty T) (.cons (.ty U) .nil), ty, kitAny_cons (kit_ty e4) (fun z => by cases z) (fun _ => rfl), k _ _ R2 (f1.trans f2) (.bl _)⟩
  | false =>
    rw [if_neg (by simp)] at e2
    obtain ⟨c, e5, e2⟩ := bind_some e2
    cases e2
    refine ⟨v, tp, _, .type n, [.type T, .type U], c, rfl, upd_same, .cons (.ty T) (.cons (.ty U) .nil), ty, kitAny_cons (kit_ty e4) (fun _ => ?_) (fun z => by cases z), k _ _ R2 (f1.trans f2) (.bl _)⟩
    cases c with
    | true => exact kitAny_cons (kit_ty e5) (fun z => by cases z) (fun _ => rfl)
    | false => exact kitAny_cons (kit_ty e5) (fun _ => kitAny_nil) (fun z => by cases z)
section
variable {S : Ms} {f fo fi fa fb : EF} {d : D} {ds xs ys : List D} {ff : FF} {C : Addr} {n : Nat} {fA : AF} {neg : Bool} {T U : String} {k : Nat}
@[simp] theorem dKAt_ref : dKAt S (.ref k) = match S.m[k]? with
    | some (.dct kds) => some (k, kds)
    | _ => none := rfl
@[simp] theorem gSubKE_ap : gSubKE fo fi d S = (fo S).bind fun p => (fi p.2).bind fun q => (dKAt q.2 p.1).bind fun r => (putAt d q.1 r.2).bind fun es => some ⟨q.2.r, q.2.m.set r.1 (.dct es)⟩ := rfl
@[simp] theorem bDInK_ap : bDInK neg fi fo S = (fi S).bind fun p => (fo p.2).bind fun q => (dKAt q.2 q.1).bind fun r => (keyD p.1).bind fun k => some (xor neg (lkK r.2 k).isSome, q.2) := rfl
@[simp] theorem iZip_ap : iZip fa fb S = (fa S).bind fun p => (fb p.2).bind fun q => (zipD p.1 q.1).bind fun ds => some (ds, q.2) := rfl
@[simp] theorem zipD_ll : zipD (.lst xs) (.lst ys) = some (zpD xs ys) := rfl
@[simp] theorem zipD_tt : zipD (.tup xs) (.tup ys) = some (zpD xs ys) := rfl
@[simp] theorem zpD_nil : zpD [] ys = [] := rfl
@[simp] theorem zpD_nil2 : zpD xs [] = [] := by cases xs <;> rfl
@[simp] theorem zpD_cons {x y : D} : zpD (x :: xs) (y :: ys) = .tup [x, y] :: zpD xs ys := rfl
@[simp] theorem eProp_ap : eProp C ff fo S = (fo S).bind fun p => (objAt C p.2 p.1).bind fun q => (ff [p.1] p.2.m).bind fun r => some (r.1, ⟨p.2.r, r.2⟩) := rfl
@[simp] theorem eFnD_ap : eFnD n ff ds fA S = (fA S).bind fun p => if p.1.length + ds.length = n then (ff (p.1 ++ ds) p.2.m).bind fun q => some (q.1, ⟨p.2.r, q.2⟩) else none := rfl
@[simp] theorem eIsi2_ap : eIsi2 T U f S = (f S).bind fun p => (gIsi2 T U (vw p.2 p.1)).bind fun z => some (z, p.2) := rfl
end
end M

/-! M25: a list again and again, as a new object -/
namespace M
open PySem PySem.Spec L2 PyProof.Rows
def cRep (fa fb : EF) : CF := fun S => (fa S).bind fun p => (fb p.2).bind fun q => match vw q.2 p.1, q.1 with
  | .lst xs, .int n => if xs.length * n.toNat ≤ LIM ∧ n ≤ 1048576 ∧ -1048576 ≤ n then some (.lst (List.replicate n.toNat xs).flatten, q.2) else none
  | _, _ => none
theorem mf_rep {X : Cx} {a b : Expr} {fa fb : EF} {pos : Pos} (ha : ME X a fa) (hb : ME X b fb) : MF X (.BinOp a .Mult b pos) (cRep fa fb) := by
  obtain ⟨ta, p1, q1⟩ := ha
  obtain ⟨tb, p2, q2⟩ := hb
  refine ⟨_, pe_op op_rep p1 p2, fun S c S' h W s Q R k => ?_⟩
  obtain ⟨⟨d1, S1⟩, e1, h⟩ := bind_some h
  obtain ⟨⟨d2, S2⟩, e2, h⟩ := bind_some h
  refine q1 S _ _ e1 W s _ R fun x W1 R1 f1 r1 => ?_
  refine q2 S1 _ _ e2 W1 s _ R1 fun y W2 R2 f2 r2 => ?_
  have rx := R2.vw (r1.up f2)
  simp only at h
  generalize vw S2 d1 = w1 at h rx
  split at h
  · rename_i xs n
    split at h
    · rename_i c
      cases h
      obtain ⟨l, vs, rfl, h1, h2⟩ := rx
      cases r2.int_inv
      refine ⟨l, n, vs, rfl, rfl, h1, by omega, by omega, by rw [h2.length]; exact Nat.le_trans c.1 lim_line, fun p hp => ?_⟩
      obtain ⟨R3, f3, nw⟩ := R2.newLst hp (RVs.rep h2 n.toNat)
      exact k _ _ R3 ((f1.trans f2).trans f3) ((f1.trans f2).hp _ hp) nw
    · cases h
  · cases h
@[simp] theorem cRep_ap {fa fb : EF} {S : Ms} : cRep fa fb S = (fa S).bind fun p => (fb p.2).bind fun q => match vw q.2 p.1, q.1 with
  | .lst xs, .int n => if xs.length * n.toNat ≤ LIM ∧ n ≤ 1048576 ∧ -1048576 ≤ n then some (.lst (List.replicate n.toNat xs).flatten, q.2) else none
  | _, _ => none := rfl
/-! is, where None may stand on the left -/
theorem op_isNB {X : Cx} : OpR X (compareOp .Is) (fun x y H Q => ∃ b : Bool, x = .non ∧ y = .bl b ∧ Q (.bl false) H) := fun pins s σ H x y v u Q I rx ry ⟨b, ex, ey, q⟩ => by
  subst ex
  subst ey
  cases (show v = Value.none from rx)
  cases (show u = Value.bool b from ry)
  exact wpAny_is_other rfl (fun z => by cases z) ⟨.bl false, H, I, rfl, q⟩
def gIsNB : D → D → Option D
  | .non, .bl _ => some (.bl false)
  | _, _ => none
theorem oIsNB {X : Cx} : OpM X (compareOp .Is) gIsNB := by
  refine ⟨_, op_isNB, fun x y d e z hz W S s Q R rx ry k => ?_⟩
  cases d <;> cases e <;> first | cases hz | skip
  exact ⟨_, RV.non_inv rx, RV.bl_inv ry, k _ W R .refl (.bl _)⟩
def gIs2 : D → D → Option D := orG gIs gIsNB
theorem oIs2 {X : Cx} : OpM X (compareOp .Is) gIs2 := oIs.or oIsNB
@[simp] theorem gIs2_bl {a b : Bool} : gIs2 (.bl a) (.bl b) = some (.bl (decide (a = b))) := rfl
@[simp] theorem gIs2_non {b : Bool} : gIs2 .non (.bl b) = some (.bl false) := rfl
end M

/-! M26: a list is unpacked into names -/
namespace M
open PySem PySem.Spec L2 PyProof.Rows
def gTpL (n : Nat) (g : List D → Ms → Option Ms) : GF := fun d S => match d with
  | .lst ds => if ds.length = n then g ds S else none
  | _ => none
theorem mg_tupL {X : Cx} {es : List Expr} {gs : List D → Ms → Option Ms} {pos : Pos} {k n : Nat} (hc : X.calm = true) (h : MGs X es gs) (hn : (assignEach es X.env).length = n := by rfl) (hst : (assignEach es X.env).findIdx? (·.1) = none := by rfl) : MG X (.Tuple es k pos) (gTpL n gs) := by
  obtain ⟨t, p, q⟩ := h
  refine ⟨_, pg_unl hc p hn hst, fun d S S' h W s v Q R r k => ?_⟩
  unfold gTpL at h
  split at h
  · split at h
    · rename_i c
      obtain ⟨a, vs, rfl, h1, h2⟩ := r.lst_inv
      exact ⟨a, vs, rfl, .of (R.sub _ _ h1), by rw [h2.length]; exact c, q _ S S' h W s vs Q R h2 k⟩
    · cases h
  · cases h
@[simp] theorem gTpL_lst {n : Nat} {g : List D → Ms → Option Ms} {ds : List D} {S : Ms} : gTpL n g (.lst ds) S = if ds.length = n then g ds S else none := rfl
end M

/-! M27: zip of a tuple with a list -/
namespace M
open PySem PySem.Spec L2 PyProof.Rows
open PySem.Sem (wp)
section
variable {prog : Program} {w : World} {A : Around} {E : Value → Shared → Prop} {s : Shared}
variable {zp pin pot ia ib la lb : Addr} {i j : Nat} {xs ys : Array Value} {x y u v : Value}
/-- what a turn may change -/
def KeptBut (zp pot ia ib : Addr) (h h' : Heap) : Prop := ∀ c o, c ≠ zp → c ≠ pot → c ≠ ia → c ≠ ib → h.get? c = some o → h'.get? c = some o
theorem mixTurn {Q : Value → Shared → Prop} (D : ZipApart zp pin pot ia ib la lb) (gz : IsZip s.heap zp pin pot .none) (gp : IsPair s.heap pin (.ref ia) (.ref ib)) (go : IsPair s.heap pot u v)
    (ga : s.heap.IsTupleIter ia la i) (gb : s.heap.IsListIter ib lb j) (ta : s.heap.IsTuple la xs) (tb : s.heap.IsList lb ys) (ex : xs[i]? = some x) (ey : ys[j]? = some y)
    (fin : ∀ g, IsZip g zp pin pot (rawInt s.heap.objs.size) → IsPair g pot x y → g.IsTupleIter ia la (i + 1) → g.IsListIter ib lb (j + 1) → IsPair g s.heap.objs.size x y → KeptBut zp pot ia ib s.heap g → Q (.ref s.heap.objs.size) { s with heap := g }) :
    wpAny (model prog w) A (Builtin.«zip.__next__» ⟨[.ref zp], []⟩) (fun e s' => ∃ r, e = .done (.ret r) ∧ Q r s') E s := by
  show wpAny _ _ (field (.ref zp) 2 >>= _) _ _ _
  refine wpAny_bind (wpAny_field gz rfl (x := .bool false) rfl ?_)
  show wpAny _ _ (field (.ref zp) 3 >>= _) _ _ _
  refine wpAny_bind (wpAny_field gz rfl (x := .ref pin) rfl (wpAny_bind (wpAny_seqItems gp rfl ?_)))
  show wpAny _ _ (Builtin.SmallTypes.ownedTupleIsFree (.ref zp) >>= _) _ _ _
  unfold Builtin.SmallTypes.ownedTupleIsFree
  refine wpAny_bind (wpAny_bind (wpAny_field gz rfl (x := .none) rfl (wpAny_pure ?_)))
  simp only [if_true]
  refine wpAny_bind (wpAny_rule (wpAny_bind (wpAny_field gz rfl (x := .ref pot) rfl (wpAny_bind (wpAny_setField_rec gz (by simp) fun g1 gz1 c1 => ?_)))))
  replace gz1 : IsZip g1 zp pin pot .ellipsis := gz1
  refine wpAny_bind ?_
  simp only [List.zipIdx_cons, List.zipIdx_nil, List.forIn_cons, List.forIn_nil]
  have e1 := c1.extBut
  refine wpAny_bind (wpAny_bind (wpAny_onRaise ?_))
  show wpAny _ _ (Builtin.SmallTypes.nextOf (.ref ia) >>= _) _ _ _
  refine wpAny_bind (RZ.nextOf_tuple_item (ga.extBut e1 D.i1z) (ta.extBut e1 D.l1z) ex fun g2 ga2 c2 => wpAny_pure ?_)
  have e2 := c2.extBut
  have go2 : IsPair g2 pot u v := e2 _ _ D.TOi1 (e1 _ _ D.TOz go)
  refine wpAny_bind (wpAny_seqItems go2 rfl (wpAny_bind (wpAny_updateSeq_pair go2 fun g3 go3 c3 => wpAny_bind (wpAny_letGo (wpAny_pure ?_)))))
  replace go3 : IsPair g3 pot x v := go3
  have e3 := c3.extBut
  refine wpAny_bind (wpAny_bind (wpAny_onRaise ?_))
  show wpAny _ _ (Builtin.SmallTypes.nextOf (.ref ib) >>= _) _ _ _
  have gb3 := ((gb.extBut e1 D.i2z).extBut e2 D.i12.symm).extBut e3 D.TOi2.symm
  have tb3 := ((tb.extBut e1 D.l2z).extBut e2 D.l2i1).extBut e3 D.l2TO
  refine wpAny_bind (wpAny_nextOf_list_item gb3 tb3 ey fun g4 gb4 c4 => wpAny_pure ?_)
  have e4 := c4.extBut
  have go4 : IsPair g4 pot x v := e4 _ _ D.TOi2 go3
  refine wpAny_bind (wpAny_seqItems go4 rfl (wpAny_bind (wpAny_updateSeq_pair go4 fun g5 go5 c5 => wpAny_bind (wpAny_letGo (wpAny_pure (wpAny_pure ?_))))))
  replace go5 : IsPair g5 pot x y := go5
  have e5 := c5.extBut
  refine wpAny_bind (wpAny_seqItems go5 rfl (wpAny_bind (wpAny_newTuple ?_)))
  have size5 : g5.objs.size = s.heap.objs.size := c5.1.trans (c4.1.trans (c3.1.trans (c2.1.trans c1.1)))
  have gz5 : IsZip g5 zp pin pot .ellipsis := e5 _ _ D.TOz.symm (e4 _ _ D.i2z.symm (e3 _ _ D.TOz.symm (e2 _ _ D.i1z.symm gz1)))
  have ga5 := ((ga2.extBut e3 D.TOi1.symm).extBut e4 D.i12).extBut e5 D.TOi1.symm
  have gb5 := gb4.extBut e5 D.TOi2.symm
  show wpAny _ _ (Builtin.SmallTypes.ownedTupleHandOut (.ref zp) (.ref g5.objs.size) >>= _) _ _ _
  unfold Builtin.SmallTypes.ownedTupleHandOut
  have gz6 : IsZip (g5.push { cls := .type "tuple", data := .seq #[x, y] }) zp pin pot .ellipsis := Heap.get?_push_of_some _ gz5
  refine wpAny_bind (wpAny_bind (wpAny_setField_rec gz6 (by simp) fun g7 gz7 c7 => ?_))
  replace gz7 : IsZip g7 zp pin pot (rawInt g5.objs.size) := gz7
  refine wpAny_setField_rec gz7 (by simp) fun g8 gz8 c8 => wpAny_pure ⟨_, rfl, ?_⟩
  replace gz8 : IsZip g8 zp pin pot (rawInt g5.objs.size) := gz8
  have lift : ∀ c o, c ≠ zp → g5.get? c = some o → g8.get? c = some o := fun c o n q => c8.extBut _ _ n (c7.extBut _ _ n (Heap.get?_push_of_some _ q))
  have fresh : IsPair g8 g5.objs.size x y := c8.extBut _ _ (Nat.ne_of_gt (Heap.lt_size gz5)) (c7.extBut _ _ (Nat.ne_of_gt (Heap.lt_size gz5)) (Heap.get?_push_size _ rfl))
  show Q (.ref g5.objs.size) _
  rw [size5] at gz8 fresh ⊢
  exact fin g8 gz8 (lift _ _ D.TOz go5) (ga5.at fun o q => lift _ o D.i1z q) (gb5.at fun o q => lift _ o D.i2z q) fresh fun c o n1 n2 n3 n4 q => lift c o n1 (e5 _ _ n2 (e4 _ _ n4 (e3 _ _ n2 (e2 _ _ n3 (e1 _ _ n1 q)))))
theorem mixStop {Q : Fin → Shared → Prop} (hh : A.handled = none) (D : ZipApart zp pin pot ia ib la lb) (gz : IsZip s.heap zp pin pot .none) (gp : IsPair s.heap pin (.ref ia) (.ref ib)) (go : IsPair s.heap pot u v)
    (ga : s.heap.IsTupleIter ia la i) (gb : s.heap.IsListIter ib lb j) (ta : s.heap.IsTuple la xs) (tb : s.heap.IsList lb ys) (no : xs[i]? = none ∨ ys[j]? = none)
    (out : ∀ g e, KeptBut zp pot ia ib s.heap g → (∃ o, g.get? e = some o ∧ o.cls = .type "StopIteration") → E (.ref e) { s with heap := g }) :
    wpAny (model prog w) A (Builtin.«zip.__next__» ⟨[.ref zp], []⟩) Q E s := by
  show wpAny _ _ (field (.ref zp) 2 >>= _) _ _ _
  refine wpAny_bind (wpAny_field gz rfl (x := .bool false) rfl ?_)
  show wpAny _ _ (field (.ref zp) 3 >>= _) _ _ _
  refine wpAny_bind (wpAny_field gz rfl (x := .ref pin) rfl (wpAny_bind (wpAny_seqItems gp rfl ?_)))
  show wpAny _ _ (Builtin.SmallTypes.ownedTupleIsFree (.ref zp) >>= _) _ _ _
  unfold Builtin.SmallTypes.ownedTupleIsFree
  refine wpAny_bind (wpAny_bind (wpAny_field gz rfl (x := .none) rfl (wpAny_pure ?_)))
  simp only [if_true]
  refine wpAny_bind (wpAny_rule (wpAny_bind (wpAny_field gz rfl (x := .ref pot) rfl (wpAny_bind (wpAny_setField_rec gz (by simp) fun g1 gz1 c1 => ?_)))))
  replace gz1 : IsZip g1 zp pin pot .ellipsis := gz1
  refine wpAny_bind ?_
  simp only [List.zipIdx_cons, List.zipIdx_nil, List.forIn_cons, List.forIn_nil]
  have e1 := c1.extBut
  have leave : ∀ (g : Heap) (e : Addr), IsZip g zp pin pot .ellipsis → (∃ o, g.get? e = some o ∧ o.cls = .type "StopIteration") → e ≠ zp := fun g e q ⟨o, q1, q2⟩ z => by
    subst z
    rw [q] at q1
    cases q1
    simp at q2
  refine wpAny_bind (wpAny_bind (wpAny_onRaise ?_))
  show wpAny _ _ (Builtin.SmallTypes.nextOf (.ref ia) >>= _) _ _ _
  cases ex : xs[i]? with
  | none =>
    refine wpAny_bind (RZ.nextOf_tuple_end hh (ga.extBut e1 D.i1z) (ta.extBut e1 D.l1z) ex fun g2 e c2 stop => ?_)
    have gz2 : IsZip g2 zp pin pot .ellipsis := c2 _ _ D.i1z.symm gz1
    have ne := leave g2 e gz2 stop
    obtain ⟨o, q1, q2⟩ := stop
    exact wpAny_setField_rec gz2 (by simp) fun g3 _ c3 => out g3 e (fun c o n1 _ n3 _ q => c3.extBut _ _ n1 (c2 _ _ n3 (e1 _ _ n1 q))) ⟨o, c3.extBut _ _ ne q1, q2⟩
  | some x =>
    have ey : ys[j]? = none := no.resolve_left (by rw [ex]; exact fun z => by cases z)
    refine wpAny_bind (RZ.nextOf_tuple_item (ga.extBut e1 D.i1z) (ta.extBut e1 D.l1z) ex fun g2 ga2 c2 => wpAny_pure ?_)
    have e2 := c2.extBut
    have go2 : IsPair g2 pot u v := e2 _ _ D.TOi1 (e1 _ _ D.TOz go)
    refine wpAny_bind (wpAny_seqItems go2 rfl (wpAny_bind (wpAny_updateSeq_pair go2 fun g3 go3 c3 => wpAny_bind (wpAny_letGo (wpAny_pure ?_)))))
    have e3 := c3.extBut
    refine wpAny_bind (wpAny_bind (wpAny_onRaise ?_))
    show wpAny _ _ (Builtin.SmallTypes.nextOf (.ref ib) >>= _) _ _ _
    have gb3 := ((gb.extBut e1 D.i2z).extBut e2 D.i12.symm).extBut e3 D.TOi2.symm
    have tb3 := ((tb.extBut e1 D.l2z).extBut e2 D.l2i1).extBut e3 D.l2TO
    refine wpAny_bind (wpAny_nextOf_list_end hh gb3 tb3 ey fun g4 e c4 stop => ?_)
    have gz4 : IsZip g4 zp pin pot .ellipsis := c4 _ _ D.i2z.symm (e3 _ _ D.TOz.symm (e2 _ _ D.i1z.symm gz1))
    have ne := leave g4 e gz4 stop
    obtain ⟨o, q1, q2⟩ := stop
    exact wpAny_setField_rec gz4 (by simp) fun g5 _ c5 => out g5 e (fun c o n1 n2 n3 n4 q => c5.extBut _ _ n1 (c4 _ _ n4 (e3 _ _ n2 (e2 _ _ n3 (e1 _ _ n1 q))))) ⟨o, c5.extBut _ _ ne q1, q2⟩
theorem mixNext {Q : Option Value → Shared → Prop} (D : ZipApart zp pin pot ia ib la lb) (gz : IsZip s.heap zp pin pot .none) (gp : IsPair s.heap pin (.ref ia) (.ref ib)) (go : IsPair s.heap pot u v)
    (ga : s.heap.IsTupleIter ia la i) (gb : s.heap.IsListIter ib lb j) (ta : s.heap.IsTuple la xs) (tb : s.heap.IsList lb ys) (ex : xs[i]? = some x) (ey : ys[j]? = some y)
    (fin : ∀ g, IsZip g zp pin pot (rawInt s.heap.objs.size) → IsPair g pot x y → g.IsTupleIter ia la (i + 1) → g.IsListIter ib lb (j + 1) → IsPair g s.heap.objs.size x y → KeptBut zp pot ia ib s.heap g → Q (some (.ref s.heap.objs.size)) { s with heap := g }) :
    wpAny (model prog w) A (pyNext (.ref zp)) Q E s := by
  have ty : s.TypeIs (.ref zp) "zip" := ⟨_, gz, rfl⟩
  unfold pyNext
  refine wpAny_bind (wpAny_attempt (wpAny_callSpecial?_slot (name := Str.ofString "__next__") ty F.slot_zip_next ?_))
  exact wpAny_call_entry F.slot_zip_next ty F.entry_zip_next (mixTurn D gz gp go ga gb ta tb ex ey fun g p1 p2 p3 p4 p5 p6 => wpAny_pure (fin g p1 p2 p3 p4 p5 p6)) (F.args_zip_next_1 _)
theorem mixOver {Q : Option Value → Shared → Prop} (hh : A.handled = none) (D : ZipApart zp pin pot ia ib la lb) (gz : IsZip s.heap zp pin pot .none) (gp : IsPair s.heap pin (.ref ia) (.ref ib)) (go : IsPair s.heap pot u v)
    (ga : s.heap.IsTupleIter ia la i) (gb : s.heap.IsListIter ib lb j) (ta : s.heap.IsTuple la xs) (tb : s.heap.IsList lb ys) (no : xs[i]? = none ∨ ys[j]? = none) (fin : ∀ g, KeptBut zp pot ia ib s.heap g → Q none { s with heap := g }) :
    wpAny (model prog w) A (pyNext (.ref zp)) Q E s := by
  have ty : s.TypeIs (.ref zp) "zip" := ⟨_, gz, rfl⟩
  unfold pyNext
  refine wpAny_bind (wpAny_attempt (wpAny_callSpecial?_slot (name := Str.ofString "__next__") ty F.slot_zip_next ?_))
  refine wpAny_call_entry F.slot_zip_next ty F.entry_zip_next (mixStop hh D gz gp go ga gb ta tb no fun g e p q => ?_) (F.args_zip_next_1 _)
  exact wpAny_bind (wpAny_isInstance (T := "StopIteration") (b := true) q isSubtype_stop (wpAny_pure (fin _ p)))
end
/-! how it begins -/
abbrev mixA (h : Heap) (la : Addr) : Heap := h.push { cls := .type "tuple_iterator", data := .fields #[.ref la, .int 0 0] }
abbrev mixB (h : Heap) (la lb : Addr) : Heap := (mixA h la).push { cls := .type "list_iterator", data := .fields #[.ref lb, .int 0 0] }
abbrev mixC (h : Heap) (la lb : Addr) : Heap := (mixB h la lb).push { cls := .type "tuple", data := .seq #[.ref h.objs.size, .ref (mixA h la).objs.size] }
abbrev mixD (h : Heap) (la lb : Addr) : Heap := (mixC h la lb).push { cls := .type "tuple", data := .seq #[.none, .none] }
abbrev mixZ (h : Heap) (la lb : Addr) : Heap := (mixD h la lb).push { cls := .type "zip", data := .fields #[.none, .bool false, .bool false, .ref (mixB h la lb).objs.size, .ref (mixC h la lb).objs.size] }
theorem mixNew (la lb : Addr) (xs ys : Array Value) : Meets (Builtin.«zip.__new__» ⟨[.type "zip", .ref la, .ref lb], []⟩) (fun _ R s => s.heap.IsTuple la xs ∧ s.heap.IsList lb ys ∧ R (.ok (.ret (.ref (mixD s.heap la lb).objs.size))) { s with heap := mixZ s.heap la lb }) :=
  .of_wp fun prog w A R s h => by
    obtain ⟨hp, g, d, tk, os⟩ := s
    obtain ⟨ta, tb, h⟩ := h
    have sz := sub_zip
    have qa : Heap.IsTuple (Shared.heap ⟨hp, g, d, tk, os⟩) la xs := ta
    have qb : Heap.IsList (Shared.heap ⟨mixA hp la, g, d, tk, os⟩) lb ys := Heap.IsList.push tb _
    wp_walk using wpAny_pyIter_tuple qa, wpAny_pyIter_list qb
    exact ⟨_, rfl, h⟩
theorem mixCall {prog : Program} {w : World} {A : Around} {E : Value → Shared → Prop} {s : Shared} {la lb : Addr} {xs ys : Array Value} {Q : Value → Shared → Prop} (ta : s.heap.IsTuple la xs) (tb : s.heap.IsList lb ys)
    (k : ∀ g, IsZip g (s.heap.objs.size + 4) (s.heap.objs.size + 2) (s.heap.objs.size + 3) .none → IsPair g (s.heap.objs.size + 2) (.ref s.heap.objs.size) (.ref (s.heap.objs.size + 1)) → IsPair g (s.heap.objs.size + 3) .none .none → g.IsTupleIter s.heap.objs.size la 0 → g.IsListIter (s.heap.objs.size + 1) lb 0 →
      (∀ c o, s.heap.get? c = some o → g.get? c = some o) → Q (.ref (s.heap.objs.size + 4)) { s with heap := g }) : wpAny (model prog w) A (call (.type "zip") [.ref la, .ref lb]) Q E s := by
  refine callType_new F.called_zip (by decide) (F.typeCall_zip_2 _ _) (F.newCall_zip_2 _ _) (fun o => F.args_object_init_3 o _ _) F.entry_zip_new (mixNew la lb xs ys) ⟨ta, tb, ?_⟩
  have n1 : (mixA s.heap la).objs.size = s.heap.objs.size + 1 := Heap.size_push ..
  have n2 : (mixB s.heap la lb).objs.size = s.heap.objs.size + 2 := (Heap.size_push ..).trans (by rw [n1])
  have n3 : (mixC s.heap la lb).objs.size = s.heap.objs.size + 3 := (Heap.size_push ..).trans (by rw [n2])
  have n4 : (mixD s.heap la lb).objs.size = s.heap.objs.size + 4 := (Heap.size_push ..).trans (by rw [n3])
  have up : ∀ {h : Heap} {c : Addr} {o p : Obj}, h.get? c = some o → (h.push p).get? c = some o := fun q => Heap.get?_push_of_some _ q
  have oz : (mixZ s.heap la lb).get? (mixD s.heap la lb).objs.size = some _ := Heap.get?_push_size _ rfl
  have ot : (mixZ s.heap la lb).get? (mixC s.heap la lb).objs.size = some _ := up (Heap.get?_push_size _ rfl)
  have oi : (mixZ s.heap la lb).get? (mixB s.heap la lb).objs.size = some _ := up (up (Heap.get?_push_size _ rfl))
  have ob : (mixZ s.heap la lb).get? (mixA s.heap la).objs.size = some _ := up (up (up (Heap.get?_push_size _ rfl)))
  have oa : (mixZ s.heap la lb).get? s.heap.objs.size = some _ := up (up (up (up (Heap.get?_push_size _ rfl))))
  show _ ∧ _
  rw [n2, n3, n4] at oz
  rw [n1, n2] at oi
  rw [n3] at ot
  rw [n1] at ob
  rw [n4]
  exact ⟨⟨_, oz, rfl⟩, k _ oz oi ot ⟨_, oa, rfl, rfl⟩ ⟨_, ob, rfl, rfl⟩ fun c o q => up (up (up (up (up q))))⟩
/-! the turns -/
/-- the tuple at a and the list at b -/
def ItzM (K : PySem.W.Frag) (a b : Addr) : It where
  go i H := ∃ (xs ys : List V) (x y : V), (SqT K H a xs ∧ xs[i]? = some x) ∧ SqL K H b ys ∧ ys[i]? = some y
  yld i H v H' := ∃ T x y, v = .ref T ∧ H T = none ∧ H' = upd H T (.tup [x, y]) ∧ (∀ zs, SqT K H a zs → zs[i]? = some x) ∧ ∀ zs, SqL K H b zs → zs[i]? = some y
  stop i H := ∃ xs ys : List V, (SqT K H a xs ∧ SqL K H b ys) ∧ (xs.length ≤ i ∨ ys.length ≤ i)
def MixAt (a b zp pin pot ia ib : Addr) (i : Nat) (h : Heap) : Prop := IsZip h zp pin pot .none ∧ IsPair h pin (.ref ia) (.ref ib) ∧ (∃ x y, IsPair h pot x y) ∧ h.IsTupleIter ia a i ∧ h.IsListIter ib b i
theorem mem5 {p q r t u c : Addr} (h : c ∈ [p, q, r, t, u]) {P : Addr → Prop} (h1 : P p) (h2 : P q) (h3 : P r) (h4 : P t) (h5 : P u) : P c := by
  simp only [List.mem_cons, List.not_mem_nil, or_false] at h
  rcases h with rfl | rfl | rfl | rfl | rfl <;> assumption
theorem notMem5 {p q r t u c : Addr} (h : ¬ c ∈ [p, q, r, t, u]) : c ≠ p ∧ c ≠ q ∧ c ≠ r ∧ c ≠ t ∧ c ≠ u := by
  simp only [List.mem_cons, List.not_mem_nil, or_false, not_or] at h
  exact h
theorem MixAt.objs {a b zp pin pot ia ib : Addr} {i : Nat} {h : Heap} (st : MixAt a b zp pin pot ia ib i h) (c : Addr) (hc : c ∈ [zp, pin, pot, ia, ib]) : ∃ o, h.get? c = some o ∧ ∀ v, o.data ≠ .cell v := by
  obtain ⟨gz, gp, ⟨x, y, go⟩, ⟨oa, ea, _, da⟩, ob, eb, _, db⟩ := st
  refine mem5 (P := fun c => ∃ o, h.get? c = some o ∧ ∀ v, o.data ≠ .cell v) hc ⟨_, gz, fun v q => nomatch q⟩ ⟨_, gp, fun v q => nomatch q⟩ ⟨_, go, fun v q => nomatch q⟩ ⟨oa, ea, fun v q => ?_⟩ ⟨ob, eb, fun v q => ?_⟩
  · rw [da] at q; exact nomatch q
  · rw [db] at q; exact nomatch q
theorem mixTurns {P : Program} {w : World} {K : PySem.W.Frag} {elts : List Expr} {kk : Nat} {tpos : Pos} {a b zp pin pot ia ib : Addr} (D : ZipApart zp pin pot ia ib a b) : Turn P w K (.Tuple elts kk tpos) (ItzM K a b) [zp, pin, pot, ia, ib] zp (MixAt a b zp pin pot ia ib) where
  mem := List.mem_cons_self
  obj := fun i h st c hc => st.objs c hc
  keep := fun i h h' st k => by
    obtain ⟨gz, gp, ⟨x, y, go⟩, ga, gb⟩ := st
    refine ⟨k zp (by simp) _ gz, k pin (by simp) _ gp, ⟨x, y, k pot (by simp) _ go⟩, ga.at ?_, gb.at ?_⟩
    · exact k ia (by simp)
    · exact k ib (by simp)
  item := by
    rintro X rfl rfl rfl _ i pins s σ H E I hf st ⟨xl, yl, x, y, ⟨ta, hx⟩, tb, hy⟩
    have hlt : ∀ c ∈ [zp, pin, pot, ia, ib], c < s.heap.objs.size := fun c hc => by
      obtain ⟨o, q, _⟩ := st.objs c hc
      exact Heap.lt_size q
    obtain ⟨gz, gp, ⟨x0, y0, go⟩, ga, gb⟩ := st
    obtain ⟨xa, ra, pa, _⟩ := I.tuple ta
    obtain ⟨ya, rb, pb, _⟩ := I.list tb
    obtain ⟨p, hp, rp⟩ := ra.get hx
    obtain ⟨q, hq, rq⟩ := rb.get hy
    refine mixNext D gz gp go ga gb pa pb.isList (x := p) (y := q) (by simpa using hp) (by simpa using hq) fun g z1 t1 a1 b1 n1 k1 => ⟨_, rfl, wpAny_letOwnedTupleGo_zip (s := { s with heap := g }) z1 fun g2 z2 sb => ?_⟩
    have e2 := sb.2
    have nT : g2.get? s.heap.objs.size = some { cls := .type "tuple", data := .seq #[p, q] } := (e2 _ (Nat.ne_of_gt (hlt zp (by simp)))).trans n1
    have nO : ObjOk X.prog X.w (upd H s.heap.objs.size (.tup [x, y])) g2 s.heap.objs.size (.tup [x, y]) := by
      refine ⟨?_, [p, q], .cons rp (.cons rq .nil), ⟨_, nT, rfl, _, rfl⟩⟩
      show 2 ≤ sizeLine
      decide
    have I2 : Inv X pins σ (upd H s.heap.objs.size (.tup [x, y])) { s with heap := g2 } := by
      refine I.turnedNew (t' := s.toks) (ch := [zp, pin, pot, ia, ib]) (fun c o hb e => ?_) hf (Nat.le_refl _) nO
      obtain ⟨m1, m2, m3, m4, m5⟩ := notMem5 hb
      exact (e2 c m1).trans (k1 c o m1 m3 m4 m5 e)
    refine ⟨.ref s.heap.objs.size, _, I2, rfl, ⟨_, x, y, rfl, I.hok.fresh (Nat.le_refl _), rfl, fun zs hz => ?_, fun zs hz => ?_⟩, ⟨z2, ?_, ⟨p, q, ?_⟩, ?_, ?_⟩, fun c hc => ?_⟩
    · rw [I.tuple_inj hz ta]; exact hx
    · rw [I.list_inj hz tb]; exact hy
    · exact (e2 _ D.TIz).trans (k1 _ _ D.TIz D.TITO D.TIi1 D.TIi2 gp)
    · exact (e2 _ D.TOz).trans t1
    · exact a1.at fun o e => (e2 _ D.i1z).trans e
    · exact b1.at fun o e => (e2 _ D.i2z).trans e
    · rw [upd_ne (Nat.ne_of_lt (hlt c hc))]
      exact (hf c hc).1
  done := by
    rintro X rfl rfl rfl calm i pins s σ H E I hf ⟨gz, gp, ⟨x0, y0, go⟩, ga, gb⟩ ⟨xl, yl, ⟨ta, tb⟩, over⟩
    obtain ⟨xa, ra, pa, _⟩ := I.tuple ta
    obtain ⟨ya, rb, pb, _⟩ := I.list tb
    have la := ra.length
    have lb := rb.length
    have no : xa.toArray[i]? = none ∨ ya.toArray[i]? = none := over.imp (fun q => by simp; omega) (fun q => by simp; omega)
    refine mixOver (I.ok.hd calm) D gz gp go ga gb pa pb.isList no fun g kp => ⟨rfl, I.turnedL (t' := s.toks) (ch := [zp, pin, pot, ia, ib]) (fun c o hb e => ?_) hf⟩
    obtain ⟨m1, m2, m3, m4, m5⟩ := notMem5 hb
    exact kp c o m1 m3 m4 m5 e
  self := fun A i s Q E st h => wpAny_pyIter_zip st.1 h
def iZipM (K : PySem.W.Frag) (ta : TA) : TI := fun σ H R => ta σ H fun vs H1 => ∃ a b xs ys, vs = [.ref a, .ref b] ∧ (SqT K H1 a xs ∧ SqL K H1 b ys) ∧ R (ItzM K a b) H1
theorem pi_zipM {X : Cx} {e e2 : Expr} {ta : TA} {p pos tpos : Pos} {elts : List Expr} {kk : Nat} (hg : Gl X "zip") (hm : X.mg "zip" = none) (ha : PA X [e, e2] ta) (hs : starEach [e, e2] X.env = (false, eval e X.env) :: starEach [e2] X.env := by rfl) (hpl : (backTo pos (starEach [e2] X.env)).any (·.1) = false := by rfl) :
    PI X (.Tuple elts kk tpos) (.Call (.Name "zip" p) [e, e2] [] pos) (iZipM X.K ta) := by
  refine ⟨fun pins s σ H R I h => Call_ (ld_blt I hg hm PyProof.Rows.boot_zip (PyProof.Rows.callWith_type1 (thn (ha.run pos pins s σ H _ I h) fun us s1 ⟨vs, H1, I1, r1, q1⟩ => ?_) hs hpl))⟩
  obtain ⟨a, b, xl, yl, rfl, ⟨qa, qb⟩, q⟩ := q1
  rcases r1 with _ | ⟨r, _ | ⟨r', _ | _⟩⟩
  cases r
  cases r'
  obtain ⟨xa, _, pa, _⟩ := I1.tuple qa
  obtain ⟨ya, _, pb, _⟩ := I1.list qb
  have new : ∀ c, s1.heap.objs.size ≤ c → FpOk X pins H1 c := fun c hle => I1.fpOk hle (I1.hok.fresh hle)
  have lta : a < s1.heap.objs.size := by obtain ⟨_, o, _⟩ := pa; exact Heap.lt_size o
  refine mixCall (show s1.heap.IsTuple a xa.toArray from pa) pb.isList fun g gz gp go ga gb kp => wpAny_pyIter_zip gz ?_
  refine ⟨s1.heap.objs.size + 4, [s1.heap.objs.size + 4, s1.heap.objs.size + 2, s1.heap.objs.size + 3, s1.heap.objs.size, s1.heap.objs.size + 1], _, _, H1, rfl, I1.kept (t' := s1.toks) kp, mixTurns (PySem.W.ktu_apart s1.heap.objs.size a b lta pb.lt), ⟨gz, gp, ⟨_, _, go⟩, ga, gb⟩, fun c hc => mem5 (P := FpOk X pins H1) hc (new _ ?_) (new _ ?_) (new _ ?_) (new _ ?_) (new _ ?_), q⟩ <;> omega
end M

/-! M28: zip of any two lists or tuples but list with tuple -/
namespace M
open PySem PySem.Spec L2 PyProof.Rows
def zipD2 : D → D → Option (List D)
  | .tup xs, .lst ys => some (zpD xs ys)
  | .tup xs, .sc ys => some (zpD xs ys)
  | d, e => zipD d e
def iZip2 (fa fb : EF) : AF := fun S => (fa S).bind fun p => (fb p.2).bind fun q => (zipD2 p.1 q.1).bind fun ds => some (ds, q.2)
theorem pi_or {X : Cx} {tg it : Expr} {w1 w2 : TI} (h1 : PI X tg it w1) (h2 : PI X tg it w2) : PI X tg it (fun σ H R => w1 σ H R ∨ w2 σ H R) := ⟨fun pins s σ H R I h => h.elim (h1.run pins s σ H R I) (h2.run pins s σ H R I)⟩
theorem yl_zipM {K : PySem.W.Frag} {W : Wd} {a b : Addr} {vs ws : List V} {xs ys : List D} (h : ∀ W2 : Wd, (∀ a o, W.F a = some o → W2.F a = some o) → (∀ a o, W2.F a = some o → W2.H a = some o) → SqT K W2.H a vs ∧ SqL K W2.H b ws) (r1 : RVs K W.F W.io vs xs) (r2 : RVs K W.F W.io ws ys) : Yl K (ItzM K a b) W (zpD xs ys) := by
  refine ⟨fun W2 S s R hF hi i d e => ?_, fun W2 S s R hF hi => ?_⟩
  · obtain ⟨x, y, ex, ey, rfl⟩ := zp_get e
    obtain ⟨v, ev, rv⟩ := r1.get ex
    obtain ⟨w, ew, rw'⟩ := r2.get ey
    obtain ⟨h1, h2⟩ := h W2 hF R.sub
    refine ⟨⟨vs, ws, v, w, ⟨h1, ev⟩, h2, ew⟩, fun z H' hy => ?_⟩
    obtain ⟨T, x', y', rfl, hT, rfl, f1, f2⟩ := hy
    have g1 := f1 vs h1
    have g2 := f2 ws h2
    rw [ev] at g1
    rw [ew] at g2
    cases g1
    cases g2
    obtain ⟨R2, f3⟩ := R.al (o := .tup [v, w]) hT
    exact ⟨_, rfl, R2, f3, .tup (.of upd_same) (.cons ((rv.mono hF hi).up f3) (.cons ((rw'.mono hF hi).up f3) .nil))⟩
  · obtain ⟨h1, h2⟩ := h W2 hF R.sub
    refine ⟨vs, ws, ⟨h1, h2⟩, ?_⟩
    rw [r1.length, r2.length]
    unfold zpD
    rw [List.length_zipWith]
    omega
theorem mi_zip2 {X : Cx} {elts : List Expr} {kk : Nat} {a b : Expr} {fa fb : EF} {p pos tpos : Pos} (hg : Gl X "zip") (hm : X.mg "zip" = none) (ha : ME X a fa) (hb : ME X b fb)
    (hs3 : starEach [a, b] X.env = (false, eval a X.env) :: starEach [b] X.env := by rfl) (hs4 : starEach [b] X.env = (false, eval b X.env) :: starEach [] X.env := by rfl) (hpl : (backTo pos (starEach [b] X.env)).any (·.1) = false := by rfl) :
    MI X (.Tuple elts kk tpos) (.Call (.Name "zip" p) [a, b] [] pos) (iZip2 fa fb) := by
  obtain ⟨t, q1, q⟩ := ha
  obtain ⟨t', q2, q'⟩ := hb
  refine ⟨_, pi_or (RZ.pi_zipA hg hm (pa_cons q1 (pa_cons q2 pa_nil hs4) hs3) hs3 hpl) (pi_zipM hg hm (pa_cons q1 (pa_cons q2 pa_nil hs4) hs3) hs3 hpl), fun S ds S' h W s Rr R k => ?_⟩
  obtain ⟨⟨d1, S1⟩, e1, h⟩ := bind_some h
  obtain ⟨⟨d2, S2⟩, e2, h⟩ := bind_some h
  obtain ⟨zs, e3, h⟩ := bind_some h
  cases h
  simp only at e3
  by_cases mix : ∃ xs ys, d1 = .tup xs ∧ (d2 = .lst ys ∨ d2 = .sc ys)
  · right
    obtain ⟨xs, ys, h1, h2⟩ := mix
    have ez : ds = zpD xs ys := by
      subst h1
      rcases h2 with rfl | rfl <;> exact (Option.some.inj e3).symm
    subst ez
    refine q S _ _ e1 W s _ R fun v W1 R1 f1 r1 => ?_
    refine q' S1 _ _ e2 W1 s _ R1 fun v2 W2 R2 f2 r2 => ?_
    have r1' := r1.up f2
    rw [h1] at r1'
    obtain ⟨a', vs, rfl, t1, s1⟩ := r1'.tup_inv
    obtain ⟨b', ws, rfl, s2, g2⟩ := sql_inv r2 h2
    exact ⟨a', b', vs, ws, rfl, ⟨sqT_mono R2.sub t1, g2 _ R2.sub⟩, k _ W2 R2 (f1.trans f2) (yl_zipM (fun W3 hF hs => ⟨sqT_mono hs (sqT_mono hF t1), g2 _ fun a o h => hs _ _ (hF _ _ h)⟩) s1 s2)⟩
  · left
    have e4 : zipD d1 d2 = some ds := by
      unfold zipD2 at e3
      split at e3
      · exact absurd ⟨_, _, rfl, .inl rfl⟩ mix
      · exact absurd ⟨_, _, rfl, .inr rfl⟩ mix
      · exact e3
    refine q S _ _ e1 W s _ R fun v W1 R1 f1 r1 => ?_
    refine q' S1 _ _ e2 W1 s _ R1 fun v2 W2 R2 f2 r2 => ?_
    have r1' := r1.up f2
    have lists : ∀ xs ys, (d1 = .lst xs ∨ d1 = .sc xs) → (d2 = .lst ys ∨ d2 = .sc ys) → ds = zpD xs ys → ∃ a b xs ys, [v, v2] = [V.ref a, V.ref b] ∧ ((SqL X.K W2.H a xs ∧ SqL X.K W2.H b ys ∧ Rr (Itz X.K a b) W2.H) ∨ (SqT X.K W2.H a xs ∧ SqT X.K W2.H b ys ∧ Rr (RZ.ItzT X.K a b) W2.H)) := fun xs ys h1 h2 e => by
      subst e
      obtain ⟨a', vs, rfl, s1, g1⟩ := sql_inv r1' h1
      obtain ⟨b', ws, rfl, s2, g2⟩ := sql_inv r2 h2
      exact ⟨a', b', vs, ws, rfl, .inl ⟨g1 _ R2.sub, g2 _ R2.sub, k _ W2 R2 (f1.trans f2) (yl_zipL (fun W3 hF hs => ⟨g1 _ fun a o h => hs _ _ (hF _ _ h), g2 _ fun a o h => hs _ _ (hF _ _ h)⟩) s1 s2)⟩⟩
    unfold zipD at e4
    split at e4
    · cases e4; exact lists _ _ (.inl rfl) (.inl rfl) rfl
    · cases e4; exact lists _ _ (.inl rfl) (.inr rfl) rfl
    · cases e4; exact lists _ _ (.inr rfl) (.inl rfl) rfl
    · cases e4; exact lists _ _ (.inr rfl) (.inr rfl) rfl
    · cases e4
      obtain ⟨a', vs, rfl, h1, s1⟩ := r1'.tup_inv
      obtain ⟨b', ws, rfl, h2, s2⟩ := r2.tup_inv
      exact ⟨a', b', vs, ws, rfl, .inr ⟨sqT_mono R2.sub h1, sqT_mono R2.sub h2, k _ W2 R2 (f1.trans f2) (yl_zipT (fun W3 hF hs => ⟨sqT_mono hs (sqT_mono hF h1), sqT_mono hs (sqT_mono hF h2)⟩) s1 s2)⟩⟩
    · cases e4
@[simp] theorem iZip2_ap {fa fb : EF} {S : Ms} : iZip2 fa fb S = (fa S).bind fun p => (fb p.2).bind fun q => (zipD2 p.1 q.1).bind fun ds => some (ds, q.2) := rfl
@[simp] theorem zipD2_ll {xs ys : List D} : zipD2 (.lst xs) (.lst ys) = some (zpD xs ys) := rfl
@[simp] theorem zipD2_tt {xs ys : List D} : zipD2 (.tup xs) (.tup ys) = some (zpD xs ys) := rfl
@[simp] theorem zipD2_tl {xs ys : List D} : zipD2 (.tup xs) (.lst ys) = some (zpD xs ys) := rfl
end M

/-! M29: defs that may raise and have a default for what is not written -/
namespace M
open PySem PySem.Spec L2 PyProof.Rows
structure Fnxd (P : Program) (w : World) (K : PySem.W.Frag) (mg : Str → Option Value) (base : Heap) (ca : Nat → Addr) (k : Nat) (x : Str) (ps : List Str) (ff : FX) (dds : List D) : Prop where
  ex : ∃ (f : Addr) (fd : FuncData) (dvs : List V) (ds : List Value), FnOk P w K mg base (L2.CX P w) k f fd ps (spX K ca ps.length ff) ∧ mg x = some (.ref f) ∧ PySem.W.keepIn K (.ref f) = true ∧ Binds K fd ps ds ∧ Vals dvs ds ∧ ∀ (F : Hp) (io : List Addr), RVs K F io dvs dds
def xFnD (n : Nat) (ff : FX) (dds : List D) (fa : AF) : XEF := fun S => (fa S).bind fun p => if p.1.length + dds.length = n then (ff (p.1 ++ dds) p.2.m).bind fun q => some (q.1, { p.2 with m := q.2 }) else none
section
variable {P : Program} {w : World} {K : PySem.W.Frag} {mg : Str → Option Value} {base : Heap} {ca : Nat → Addr}
theorem fnxd {x qual y : Str} {st : Stmt} {f T : Addr} {fd : FuncData} {N ps : List Str} {k : Nat} {b : XF} (F : Fun K x qual st f fd) (FD : FunD K x qual (defArgs st) (defBody st) (defScope st) [] [(y, .ref T)] f fd) (hT : KNil K T) (hm : mg x = some (.ref f)) (S : FnScope N ps (defScope st)) (n : Nat) (hn : n + 1 = ps.length)
    (hch : ∀ (D : Addr) (doc pm : Value) (an : Option Addr) (cdv ct : Value) (us ks : List Value), us.length = n → ks.length = 1 → KwChain D ([y].zip ks) (bindArgs (PySem.W.fnOf x qual (defArgs st) (defBody st) (defScope st) .none (.ref D) doc pm an cdv ct) ⟨us, []⟩) (ps.zip (us ++ ks)))
    (hb : ∀ (cdv : Value) (A : Around) (outer : List Env) (s : Shared) (H : Hp) (E : XK), Room k (A.deeper (PyProof.Rows.envOfC qual (defScope st) s.heap.objs.size f cdv)) →
      MSsx (cxOf (L2.CX P w) P w K mg base N qual (defScope st) f cdv A outer s H E) ca (defBody st) b) : Fnxd P w K mg base ca (k + 1) x ps (fnX N.length b) [.tup []] := by
  obtain ⟨ds, hv, hb2⟩ := FD.binds0 n (by simp) hn hch
  obtain ⟨dd, its, m, sl, hl, hz⟩ := hT
  refine ⟨f, fd, [.ref T], ds, fnx_ok F S hb, hm, F.kp, hb2, hv, fun F' io => .cons (.tup (vs := []) (.inr ⟨_, its, m, hl, rfl, rfl, by rw [hz]; exact Nat.zero_le _, ?_⟩) .nil) .nil⟩
  have : its.toList = [] := List.eq_nil_of_length_eq_zero (by simpa using hz)
  rw [this]; exact .nil
theorem fnd_noX {k : Nat} {x : Str} {ps : List Str} {ff : FX} {dds : List D} (G : Fnxd P w K mg base ca k x ps ff dds) : Fnd P w K mg base k x ps (noX ff) dds := by
  obtain ⟨f, fd, dvs, ds, G, hm, hk, hb, hv, hd⟩ := G.ex
  exact ⟨f, fd, dvs, ds, noX_ok G, hm, hk, hb, hv, hd⟩
end
theorem mex_fd {X : Cx} {ca : Nat → Addr} {k n : Nat} {ps : List Str} {ff : FX} {dds : List D} {x : Str} {p pos : Pos} {e : Expr} {es : List Expr} {fa : AF} (G : Fnxd X.prog X.w X.K X.mg X.base ca k x ps ff dds) (hr : Room k X.A) (ha : MA X (e :: es) fa)
    (hn : ps.length = n := by rfl) (hg : Gl X x := by rfl) (hdb : (x == ("__debug__" : Str)) = false := by decide) (he : starEach (e :: es) X.env = (false, eval e X.env) :: starEach es X.env := by rfl) (hpl : (backTo pos (starEach es X.env)).any (·.1) = false := by rfl) :
    MEx X ca (.Call (.Name x p) (e :: es) [] pos) (xFnD n ff dds fa) := fun W tk => by
  obtain ⟨f, fd, dvs, dsv, G, hm, hk, hb, hv, hd⟩ := G.ex
  rw [hn] at G
  obtain ⟨t, pt, q⟩ := ha
  refine peImp (pe_callSD G hr hg hm hk hb hv (fun σ => passAt tk σ) pt hdb he hpl) fun σ H Q ⟨S, r, S', V, eV, R, ef, kk⟩ => ?_
  subst eV
  obtain ⟨⟨ds, S1⟩, e1, ef⟩ := bind_some ef
  simp only at ef
  split at ef
  · rename_i hl
    obtain ⟨⟨r1, m1⟩, e2, ef⟩ := bind_some ef
    cases ef
    refine q S _ _ e1 V σ _ R fun vs V1 R1 f1 rv => ?_
    have r2 := rvs_app (hd V1.F V1.io) rv
    refine ⟨by rw [r2.length, List.length_append]; exact hl, V1, ds ++ dds, S1.m, r1, m1, rfl, R1.bare, r2, e2, ?_⟩
    cases r1 with
    | inl d => exact fun v V2 R2 f2 r2 => let ⟨R3, f3⟩ := R1.back R2 f2; kk V2 R3 (f1.trans f3) v r2
    | inr e => exact fun V2 cls d R2 f2 hx => let ⟨R3, f3⟩ := R1.back R2 f2; kk V2 R3 (f1.trans f3) cls d hx
  · cases ef
@[simp] theorem xFnD_ap {n : Nat} {ff : FX} {dds : List D} {fa : AF} {S : Ms} : xFnD n ff dds fa S = (fa S).bind fun p => if p.1.length + dds.length = n then (ff (p.1 ++ dds) p.2.m).bind fun q => some (q.1, ⟨p.2.r, q.2⟩) else none := rfl
end M

/-! the machine functions of k13, printed by gen.py -/
namespace Lk13
open PySem PySem.Spec L2 M
noncomputable section
def b_Program___init__ (ca : Nat → Addr) : SF := (sSeq (sFldM (ca 3) "inputs" (eVar 0) (eCallV gTuple 1)) (sSeq (sFldM (ca 3) "functions" (eVar 0) (eCallV gTuple 2)) (sFldM (ca 3) "body" (eVar 0) (eCallV gTuple 3))))
def f_Program___init__ (ca : Nat → Addr) : FF := fnM 4 (b_Program___init__ ca)
def l_Program_unknowns_1 (ca : Nat → Addr) : SF := (sAsg (eOp gAdd (eVar 1) (eNew (cLst (aCons (eTup (aCons (eVar 4) (aCons (eVar 5) aNil))) aNil)))) (gNm 1))
def l_Program_unknowns_2 (ca : Nat → Addr) : SF := (sFor (iRg1 (eCalls gMax2 (aCons (eC (.int 1)) (aCons (eVar 3) aNil)))) (gNm 6) (l_Program_unknowns_1 ca))
def b_Program_unknowns (ca : Nat → Addr) : SF := (sSeq (sAsg (eNew (cLst aNil)) (gNm 1)) (sSeq (sFor (iSeq (eFld (ca 3) "inputs" (eVar 0))) (gTp 4 (gsCons (gNm 2) (gsCons (gNm 3) (gsCons (gNm 4) (gsCons (gNm 5) gsNil))))) (l_Program_unknowns_2 ca)) (sRet (eVar 1))))
def f_Program_unknowns (ca : Nat → Addr) : FF := fnM 7 (b_Program_unknowns ca)
def l_find_function_1 : SF := (sIf (bOf (eOp gEq2 (eOpL gIx 2 (eC (.int 1))) (eVar 1))) (sRet (eVar 2)) sNil)
def b_find_function : SF := (sSeq (sFor (iSeq (eVar 0)) (gNm 2) l_find_function_1) (sRet (eC .non)))
def f_find_function : FF := fnM 3 b_find_function
def t_value_of_1 (rec : FF) : SF := (sSeq (sIf (bNot (bOf (eChain gLe gLt (eC (.int 0)) (eVar 2) (eCallV gLen 3)))) (sRet (eC .non)) sNil) (sRet (eOp gAdd (eOpL gIx 3 (eVar 2)) (eOpL gIx 0 (eC (.int 3))))))
@[simp] theorem t_value_of_1_ap {rec : FF} {S : Ms} : t_value_of_1 rec S = (sSeq (sIf (bNot (bOf (eChain gLe gLt (eC (.int 0)) (eVar 2) (eCallV gLen 3)))) (sRet (eC .non)) sNil) (sRet (eOp gAdd (eOpL gIx 3 (eVar 2)) (eOpL gIx 0 (eC (.int 3)))))) S := rfl
def t_value_of_2 (rec : FF) : SF := (sSeq (sAsg (eOpL gIxK 1 (eOpL gIx 0 (eC (.int 1)))) (gNm 3)) (t_value_of_1 rec))
@[simp] theorem t_value_of_2_ap {rec : FF} {S : Ms} : t_value_of_2 rec S = (sSeq (sAsg (eOpL gIxK 1 (eOpL gIx 0 (eC (.int 1)))) (gNm 3)) (t_value_of_1 rec)) S := rfl
def t_value_of_3 (rec : FF) : SF := (sSeq (sAsg (eFn 2 rec (aCons (eOpL gIx 0 (eC (.int 2))) (aCons (eVar 1) aNil))) (gNm 2)) (t_value_of_2 rec))
@[simp] theorem t_value_of_3_ap {rec : FF} {S : Ms} : t_value_of_3 rec S = (sSeq (sAsg (eFn 2 rec (aCons (eOpL gIx 0 (eC (.int 2))) (aCons (eVar 1) aNil))) (gNm 2)) (t_value_of_2 rec)) S := rfl
def t_value_of_4 (rec : FF) : SF := (sSeq (sIf (bOf (eOp gEq2 (eOpL gIx 0 (eC (.int 0))) (eC (.str "var")))) (sRet (eOp gAdd (eOpL gIxK 1 (eOpL gIx 0 (eC (.int 1)))) (eOpL gIx 0 (eC (.int 2))))) sNil) (t_value_of_3 rec))
@[simp] theorem t_value_of_4_ap {rec : FF} {S : Ms} : t_value_of_4 rec S = (sSeq (sIf (bOf (eOp gEq2 (eOpL gIx 0 (eC (.int 0))) (eC (.str "var")))) (sRet (eOp gAdd (eOpL gIxK 1 (eOpL gIx 0 (eC (.int 1)))) (eOpL gIx 0 (eC (.int 2))))) sNil) (t_value_of_3 rec)) S := rfl
def b_value_of (rec : FF) : SF := (sSeq (sIf (bOf (eOp gEq2 (eOpL gIx 0 (eC (.int 0))) (eC (.str "num")))) (sRet (eOpL gIx 0 (eC (.int 1)))) sNil) (t_value_of_4 rec))
def f_value_of : Nat → FF
  | 0 => fnM 4 (fun _ => none)
  | n + 1 => fnM 4 (b_value_of (f_value_of n))
def t_compares_1 : SF := (sSeq (sIf (bOf (eOp gEq2 (eVar 0) (eC (.str "==")))) (sRet (eOp gEq2 (eVar 1) (eVar 2))) sNil) (sRet (eOp gNe2 (eVar 1) (eVar 2))))
@[simp] theorem t_compares_1_ap {S : Ms} : t_compares_1 S = (sSeq (sIf (bOf (eOp gEq2 (eVar 0) (eC (.str "==")))) (sRet (eOp gEq2 (eVar 1) (eVar 2))) sNil) (sRet (eOp gNe2 (eVar 1) (eVar 2)))) S := rfl
def t_compares_2 : SF := (sSeq (sIf (bOf (eOp gEq2 (eVar 0) (eC (.str ">=")))) (sRet (eOp gGe (eVar 1) (eVar 2))) sNil) t_compares_1)
@[simp] theorem t_compares_2_ap {S : Ms} : t_compares_2 S = (sSeq (sIf (bOf (eOp gEq2 (eVar 0) (eC (.str ">=")))) (sRet (eOp gGe (eVar 1) (eVar 2))) sNil) t_compares_1) S := rfl
def t_compares_3 : SF := (sSeq (sIf (bOf (eOp gEq2 (eVar 0) (eC (.str ">")))) (sRet (eOp gGt (eVar 1) (eVar 2))) sNil) t_compares_2)
@[simp] theorem t_compares_3_ap {S : Ms} : t_compares_3 S = (sSeq (sIf (bOf (eOp gEq2 (eVar 0) (eC (.str ">")))) (sRet (eOp gGt (eVar 1) (eVar 2))) sNil) t_compares_2) S := rfl
def t_compares_4 : SF := (sSeq (sIf (bOf (eOp gEq2 (eVar 0) (eC (.str "<=")))) (sRet (eOp gLe (eVar 1) (eVar 2))) sNil) t_compares_3)
@[simp] theorem t_compares_4_ap {S : Ms} : t_compares_4 S = (sSeq (sIf (bOf (eOp gEq2 (eVar 0) (eC (.str "<=")))) (sRet (eOp gLe (eVar 1) (eVar 2))) sNil) t_compares_3) S := rfl
def b_compares : SF := (sSeq (sIf (bOf (eOp gEq2 (eVar 0) (eC (.str "<")))) (sRet (eOp gLt (eVar 1) (eVar 2))) sNil) t_compares_4)
def f_compares : FF := fnM 3 b_compares
def t_truth_of_1 (rec : FF) : SF := (sSeq (sIf (bOr (bOf (eOp gIsN (eVar 2) (eC .non))) (bOf (eOp gIsN (eVar 3) (eC .non)))) (sRet (eC .non)) sNil) (sRet (eFn 3 f_compares (aCons (eOpL gIx 0 (eC (.int 1))) (aCons (eVar 2) (aCons (eVar 3) aNil))))))
@[simp] theorem t_truth_of_1_ap {rec : FF} {S : Ms} : t_truth_of_1 rec S = (sSeq (sIf (bOr (bOf (eOp gIsN (eVar 2) (eC .non))) (bOf (eOp gIsN (eVar 3) (eC .non)))) (sRet (eC .non)) sNil) (sRet (eFn 3 f_compares (aCons (eOpL gIx 0 (eC (.int 1))) (aCons (eVar 2) (aCons (eVar 3) aNil)))))) S := rfl
def t_truth_of_2 (rec : FF) : SF := (sSeq (sAsg (eFn 2 (f_value_of 8) (aCons (eOpL gIx 0 (eC (.int 3))) (aCons (eVar 1) aNil))) (gNm 3)) (t_truth_of_1 rec))
@[simp] theorem t_truth_of_2_ap {rec : FF} {S : Ms} : t_truth_of_2 rec S = (sSeq (sAsg (eFn 2 (f_value_of 8) (aCons (eOpL gIx 0 (eC (.int 3))) (aCons (eVar 1) aNil))) (gNm 3)) (t_truth_of_1 rec)) S := rfl
def l_truth_of_1 (rec : FF) : SF := (sSeq (sAsg (eFn 2 rec (aCons (eVar 6) (aCons (eVar 1) aNil))) (gNm 4)) (sIf (bOr (bOf (eOp gIsN (eVar 4) (eC .non))) (bOf (eOp gNe2 (eVar 4) (eVar 5)))) (sRet (eVar 4)) sNil))
def t_truth_of_3 (rec : FF) : SF := (sSeq (sFor (iSeq (eOpL gIx 0 (eC (.int 1)))) (gNm 6) (l_truth_of_1 rec)) (sRet (eVar 5)))
@[simp] theorem t_truth_of_3_ap {rec : FF} {S : Ms} : t_truth_of_3 rec S = (sSeq (sFor (iSeq (eOpL gIx 0 (eC (.int 1)))) (gNm 6) (l_truth_of_1 rec)) (sRet (eVar 5))) S := rfl
def t_truth_of_4 (rec : FF) : SF := (sSeq (sAsg (eOp gEq2 (eOpL gIx 0 (eC (.int 0))) (eC (.str "and"))) (gNm 5)) (t_truth_of_3 rec))
@[simp] theorem t_truth_of_4_ap {rec : FF} {S : Ms} : t_truth_of_4 rec S = (sSeq (sAsg (eOp gEq2 (eOpL gIx 0 (eC (.int 0))) (eC (.str "and"))) (gNm 5)) (t_truth_of_3 rec)) S := rfl
def t_truth_of_5 (rec : FF) : SF := (sSeq (sIf (bOf (eOp gEq2 (eOpL gIx 0 (eC (.int 0))) (eC (.str "not")))) (sSeq (sAsg (eFn 2 rec (aCons (eOpL gIx 0 (eC (.int 1))) (aCons (eVar 1) aNil))) (gNm 4)) (sSeq (sIf (bOf (eOp gIsN (eVar 4) (eC .non))) (sRet (eC .non)) sNil) (sRet (eNot (eVar 4))))) sNil) (t_truth_of_4 rec))
@[simp] theorem t_truth_of_5_ap {rec : FF} {S : Ms} : t_truth_of_5 rec S = (sSeq (sIf (bOf (eOp gEq2 (eOpL gIx 0 (eC (.int 0))) (eC (.str "not")))) (sSeq (sAsg (eFn 2 rec (aCons (eOpL gIx 0 (eC (.int 1))) (aCons (eVar 1) aNil))) (gNm 4)) (sSeq (sIf (bOf (eOp gIsN (eVar 4) (eC .non))) (sRet (eC .non)) sNil) (sRet (eNot (eVar 4))))) sNil) (t_truth_of_4 rec)) S := rfl
def b_truth_of (rec : FF) : SF := (sSeq (sIf (bOf (eOp gEq2 (eOpL gIx 0 (eC (.int 0))) (eC (.str "cmp")))) (sSeq (sAsg (eFn 2 (f_value_of 8) (aCons (eOpL gIx 0 (eC (.int 2))) (aCons (eVar 1) aNil))) (gNm 2)) (t_truth_of_2 rec)) sNil) (t_truth_of_5 rec))
def f_truth_of : Nat → FF
  | 0 => fnM 7 (fun _ => none)
  | n + 1 => fnM 7 (b_truth_of (f_truth_of n))
def b_Watch___init__ (ca : Nat → Addr) : SF := (sSeq (sFldM (ca 4) "place" (eVar 0) (eCallV gTuple 1)) (sFldM (ca 4) "progress" (eVar 0) (eC (.int 0))))
def f_Watch___init__ (ca : Nat → Addr) : FF := fnM 2 (b_Watch___init__ ca)
def b_Watch_next_atom (ca : Nat → Addr) : SF := (sSeq (sIf (bOf (eOp gLt (eFld (ca 4) "progress" (eVar 0)) (eCall gLen (eFld (ca 4) "place" (eVar 0))))) (sRet (eOp gIx (eFld (ca 4) "place" (eVar 0)) (eFld (ca 4) "progress" (eVar 0)))) sNil) (sRet (eC .non)))
def f_Watch_next_atom (ca : Nat → Addr) : FF := fnM 1 (b_Watch_next_atom ca)
def b_Watch_wanted (ca : Nat → Addr) : SF := (sSeq (sAsg (eMeth (ca 4) "next_atom" 1 (f_Watch_next_atom ca) (eVar 0) aNil) (gNm 2)) (sSeq (sIf (bOr (bOf (eOp gIsN (eVar 2) (eC .non))) (bOr (bOf (eOp gNe2 (eOpL gIx 2 (eC (.int 0))) (eC (.str "when")))) (bOf (eOp gNe2 (eVar 1) (eTup (aCons (eC (.str "row")) (aCons (eOpL gIx 2 (eC (.int 1))) aNil))))))) (sRet (eC .non)) sNil) (sRet (eTup (aCons (eOpL gIx 2 (eC (.int 2))) (aCons (eOpL gIx 2 (eC (.int 3))) (aCons (eOpL gIx 2 (eC (.int 4))) aNil)))))))
def f_Watch_wanted (ca : Nat → Addr) : FF := fnM 3 (b_Watch_wanted ca)
def b_Watch_meets (ca : Nat → Addr) : SF := (sSeq (sIf (bOf (eOp gNotN (eMeth (ca 4) "wanted" 2 (f_Watch_wanted ca) (eVar 0) (aCons (eVar 1) aNil)) (eC .non))) (sRet (eVar 2)) sNil) (sRet (eOp gEq2 (eVar 1) (eMeth (ca 4) "next_atom" 1 (f_Watch_next_atom ca) (eVar 0) aNil))))
def f_Watch_meets (ca : Nat → Addr) : FF := fnM 3 (b_Watch_meets ca)
def b_Watch_see (ca : Nat → Addr) : SF := (sSeq (sIf (bNot (bTru (eMeth (ca 4) "meets" 3 (f_Watch_meets ca) (eVar 0) (aCons (eVar 1) (aCons (eVar 2) aNil))))) (sRet (eC (.bl false))) sNil) (sSeq (sFldAugM (ca 4) "progress" (fun i j => i + j) (eVar 0) (eC (.int 1))) (sRet (eOp gEq2 (eFld (ca 4) "progress" (eVar 0)) (eCall gLen (eFld (ca 4) "place" (eVar 0)))))))
def f_Watch_see (ca : Nat → Addr) : FF := fnM 3 (b_Watch_see ca)
def t_Run___init___1 (ca : Nat → Addr) : SF := (sSeq (sFldM (ca 5) "met" (eVar 0) (eC .non)) (sFldM (ca 5) "watch" (eVar 0) (eMake (ca 4) 2 (f_Watch___init__ ca) (aCons (eVar 1) aNil))))
@[simp] theorem t_Run___init___1_ap {ca : Nat → Addr} {S : Ms} : t_Run___init___1 ca S = (sSeq (sFldM (ca 5) "met" (eVar 0) (eC .non)) (sFldM (ca 5) "watch" (eVar 0) (eMake (ca 4) 2 (f_Watch___init__ ca) (aCons (eVar 1) aNil)))) S := rfl
def t_Run___init___2 (ca : Nat → Addr) : SF := (sSeq (sFldC (ca 5) "events" (eVar 0) (cLst aNil)) (t_Run___init___1 ca))
@[simp] theorem t_Run___init___2_ap {ca : Nat → Addr} {S : Ms} : t_Run___init___2 ca S = (sSeq (sFldC (ca 5) "events" (eVar 0) (cLst aNil)) (t_Run___init___1 ca)) S := rfl
def b_Run___init__ (ca : Nat → Addr) : SF := (sSeq (sFldM (ca 5) "outcome" (eVar 0) (eTup (aCons (eC (.str "end")) aNil))) (t_Run___init___2 ca))
def f_Run___init__ (ca : Nat → Addr) : FF := fnM 2 (b_Run___init__ ca)
def b_Run_sees (ca : Nat → Addr) : SF := (sSeq (sAsg (eMeth (ca 4) "wanted" 2 (f_Watch_wanted ca) (eFld (ca 5) "watch" (eVar 0)) (aCons (eVar 1) aNil)) (gNm 3)) (sSeq (sIf (bOf (eOp gIsN (eVar 3) (eC .non))) (sRet (eMeth (ca 4) "see" 3 (f_Watch_see ca) (eFld (ca 5) "watch" (eVar 0)) (aCons (eVar 1) (aCons (eC (.bl false)) aNil)))) sNil) (sRet (eMeth (ca 4) "see" 3 (f_Watch_see ca) (eFld (ca 5) "watch" (eVar 0)) (aCons (eVar 1) (aCons (eOp gIs2 (eFn 2 (f_truth_of 8) (aCons (eOp gAdd (eTup (aCons (eC (.str "cmp")) aNil)) (eVar 3)) (aCons (eVar 2) aNil))) (eC (.bl true))) aNil))))))
def f_Run_sees (ca : Nat → Addr) : FF := fnM 4 (b_Run_sees ca)
def b_Run_happen (ca : Nat → Addr) : SF := (sSeq (sIf (bAnd (bOf (eOp gIsN (eFld (ca 5) "met" (eVar 0)) (eC .non))) (bTru (eMeth (ca 5) "sees" 3 (f_Run_sees ca) (eVar 0) (aCons (eVar 1) (aCons (eVar 2) aNil))))) (sFldM (ca 5) "met" (eVar 0) (eCall gLen (eFld (ca 5) "events" (eVar 0)))) sNil) (sExpr (eAppE (eFld (ca 5) "events" (eVar 0)) (eVar 1))))
def f_Run_happen (ca : Nat → Addr) : FF := fnM 3 (b_Run_happen ca)
def b_Run_fault (ca : Nat → Addr) : SF := (sSeq (sExpr (eMeth (ca 5) "happen" 3 (f_Run_happen ca) (eVar 0) (aCons (eTup (aCons (eC (.str "fault")) (aCons (eVar 1) (aCons (eVar 2) aNil)))) (aCons (eVar 3) aNil)))) (sRet (eTup (aCons (eC (.str "fault")) (aCons (eVar 1) (aCons (eVar 2) aNil))))))
def f_Run_fault (ca : Nat → Addr) : FF := fnM 4 (b_Run_fault ca)
def b_Frame___init__ (ca : Nat → Addr) : SF := (sSeq (sFldM (ca 6) "variables" (eVar 0) (eVar 1)) (sFldC (ca 6) "ranges" (eVar 0) cDK))
def f_Frame___init__ (ca : Nat → Addr) : FF := fnM 2 (b_Frame___init__ ca)
def b_is_integer : SF := (sRet (eAnd (eIsiC "int" (eVar 0)) (eNot (eIsiC "bool" (eVar 0)))))
def f_is_integer : FF := fnM 1 b_is_integer
def l_is_input_1 (ca : Nat → Addr) : SF := (sIf (bOr (bNot (bTru (eFn 1 f_is_integer (aCons (eVar 3) aNil)))) (bNot (bOf (eChain gLe gLe (eVar 4) (eVar 3) (eVar 5))))) (sRet (eC (.bl false))) sNil)
def t_is_input_1 (ca : Nat → Addr) : SF := (sSeq (sFor (iZip2 (eVar 1) (eVar 2)) (gTp 2 (gsCons (gNm 3) (gsCons (gTp 2 (gsCons (gNm 4) (gsCons (gNm 5) gsNil))) gsNil))) (l_is_input_1 ca)) (sRet (eC (.bl true))))
@[simp] theorem t_is_input_1_ap {ca : Nat → Addr} {S : Ms} : t_is_input_1 ca S = (sSeq (sFor (iZip2 (eVar 1) (eVar 2)) (gTp 2 (gsCons (gNm 3) (gsCons (gTp 2 (gsCons (gNm 4) (gsCons (gNm 5) gsNil))) gsNil))) (l_is_input_1 ca)) (sRet (eC (.bl true)))) S := rfl
def t_is_input_2 (ca : Nat → Addr) : SF := (sSeq (sIf (bOr (bNot (bTru (eIsi2 "list" "tuple" (eVar 1)))) (bOf (eOp gNe2 (eCallV gLen 1) (eCallV gLen 2)))) (sRet (eC (.bl false))) sNil) (t_is_input_1 ca))
@[simp] theorem t_is_input_2_ap {ca : Nat → Addr} {S : Ms} : t_is_input_2 ca S = (sSeq (sIf (bOr (bNot (bTru (eIsi2 "list" "tuple" (eVar 1)))) (bOf (eOp gNe2 (eCallV gLen 1) (eCallV gLen 2)))) (sRet (eC (.bl false))) sNil) (t_is_input_1 ca)) S := rfl
def b_is_input (ca : Nat → Addr) : SF := (sSeq (sAsg (eProp (ca 3) (f_Program_unknowns ca) (eVar 0)) (gNm 2)) (t_is_input_2 ca))
def f_is_input (ca : Nat → Addr) : FF := fnM 6 (b_is_input ca)
def l_input_variables_1 (ca : Nat → Addr) : SF := (sIf (bOf (eOp gEq2 (eVar 5) (eC (.int 0)))) (sSeq (sAsg (eOpL gIx 1 (eVar 3)) (gSubK 2 (eVar 4))) (sAug 3 (fun i j => i + j) (eC (.int 1)))) (sSeq (sAsg (eCel (cCall gList (eSl3 (eVar 1) (oSome (eVar 3)) (oSome (eOp gAdd (eVar 3) (eVar 5)))))) (gSubK 2 (eVar 4))) (sAug 3 (fun i j => i + j) (eVar 5))))
def t_input_variables_1 (ca : Nat → Addr) : SF := (sSeq (sFor (iSeq (eFld (ca 3) "inputs" (eVar 0))) (gTp 4 (gsCons (gNm 4) (gsCons (gNm 5) (gsCons (gNm 6) (gsCons (gNm 7) gsNil))))) (l_input_variables_1 ca)) (sRet (eVar 2)))
@[simp] theorem t_input_variables_1_ap {ca : Nat → Addr} {S : Ms} : t_input_variables_1 ca S = (sSeq (sFor (iSeq (eFld (ca 3) "inputs" (eVar 0))) (gTp 4 (gsCons (gNm 4) (gsCons (gNm 5) (gsCons (gNm 6) (gsCons (gNm 7) gsNil))))) (l_input_variables_1 ca)) (sRet (eVar 2))) S := rfl
def t_input_variables_2 (ca : Nat → Addr) : SF := (sSeq (sAsg (eC (.int 0)) (gNm 3)) (t_input_variables_1 ca))
@[simp] theorem t_input_variables_2_ap {ca : Nat → Addr} {S : Ms} : t_input_variables_2 ca S = (sSeq (sAsg (eC (.int 0)) (gNm 3)) (t_input_variables_1 ca)) S := rfl
def b_input_variables (ca : Nat → Addr) : SF := (sSeq (sCell 2 cDK) (t_input_variables_2 ca))
def f_input_variables (ca : Nat → Addr) : FF := fnM 8 (b_input_variables ca)
def t_store_1 (ca : Nat → Addr) : SF := (sSeq (sAsg (eVar 4) (gSubKE (eFld (ca 6) "variables" (eVar 1)) (eVar 3))) (sRet (eC .non)))
@[simp] theorem t_store_1_ap {ca : Nat → Addr} {S : Ms} : t_store_1 ca S = (sSeq (sAsg (eVar 4) (gSubKE (eFld (ca 6) "variables" (eVar 1)) (eVar 3))) (sRet (eC .non))) S := rfl
def t_store_2 (ca : Nat → Addr) : SF := (sSeq (sIf (bDInK false (eVar 3) (eFld (ca 6) "ranges" (eVar 1))) (sSeq (sAsg (eOp gIxK (eFld (ca 6) "ranges" (eVar 1)) (eVar 3)) (gTp 2 (gsCons (gNm 5) (gsCons (gNm 6) gsNil)))) (sIf (bNot (bOf (eChain gLe gLe (eVar 5) (eVar 4) (eVar 6)))) (sRet (eMeth (ca 5) "fault" 4 (f_Run_fault ca) (eVar 0) (aCons (eVar 2) (aCons (eC (.str "range")) (aCons (eFld (ca 6) "variables" (eVar 1)) aNil))))) sNil)) sNil) (t_store_1 ca))
@[simp] theorem t_store_2_ap {ca : Nat → Addr} {S : Ms} : t_store_2 ca S = (sSeq (sIf (bDInK false (eVar 3) (eFld (ca 6) "ranges" (eVar 1))) (sSeq (sAsg (eOp gIxK (eFld (ca 6) "ranges" (eVar 1)) (eVar 3)) (gTp 2 (gsCons (gNm 5) (gsCons (gNm 6) gsNil)))) (sIf (bNot (bOf (eChain gLe gLe (eVar 5) (eVar 4) (eVar 6)))) (sRet (eMeth (ca 5) "fault" 4 (f_Run_fault ca) (eVar 0) (aCons (eVar 2) (aCons (eC (.str "range")) (aCons (eFld (ca 6) "variables" (eVar 1)) aNil))))) sNil)) sNil) (t_store_1 ca)) S := rfl
def b_store (ca : Nat → Addr) : SF := (sSeq (sIf (bOf (eOp gIsN (eVar 4) (eC .non))) (sRet (eMeth (ca 5) "fault" 4 (f_Run_fault ca) (eVar 0) (aCons (eVar 2) (aCons (eC (.str "index")) (aCons (eFld (ca 6) "variables" (eVar 1)) aNil))))) sNil) (t_store_2 ca))
def f_store (ca : Nat → Addr) : FF := fnM 7 (b_store ca)
def b_do_let (ca : Nat → Addr) : SF := (sSeq (sAsg (eOpL gIx 2 (eC (.int 2))) (gNm 3)) (sSeq (sIf (bOf (eOp gNotN (eOpL gIx 2 (eC (.int 3))) (eC .non))) (sAsg (eTup (aCons (eOpL gIx 2 (eC (.int 3))) (aCons (eOpL gIx 2 (eC (.int 4))) aNil))) (gSubKE (eFld (ca 6) "ranges" (eVar 1)) (eVar 3))) sNil) (sRet (eFn 5 (f_store ca) (aCons (eVar 0) (aCons (eVar 1) (aCons (eOpL gIx 2 (eC (.int 1))) (aCons (eVar 3) (aCons (eFn 2 (f_value_of 8) (aCons (eOpL gIx 2 (eC (.int 5))) (aCons (eFld (ca 6) "variables" (eVar 1)) aNil))) aNil)))))))))
def f_do_let (ca : Nat → Addr) : FF := fnM 4 (b_do_let ca)
def t_do_list_1 (ca : Nat → Addr) : SF := (sSeq (sAsg (eCel (cRep (eNew (cLst (aCons (eVar 3) aNil))) (eOpL gIx 2 (eC (.int 3))))) (gSubKE (eFld (ca 6) "variables" (eVar 1)) (eOpL gIx 2 (eC (.int 2))))) (sRet (eC .non)))
@[simp] theorem t_do_list_1_ap {ca : Nat → Addr} {S : Ms} : t_do_list_1 ca S = (sSeq (sAsg (eCel (cRep (eNew (cLst (aCons (eVar 3) aNil))) (eOpL gIx 2 (eC (.int 3))))) (gSubKE (eFld (ca 6) "variables" (eVar 1)) (eOpL gIx 2 (eC (.int 2))))) (sRet (eC .non))) S := rfl
def t_do_list_2 (ca : Nat → Addr) : SF := (sSeq (sIf (bOf (eOp gIsN (eVar 3) (eC .non))) (sRet (eMeth (ca 5) "fault" 4 (f_Run_fault ca) (eVar 0) (aCons (eOpL gIx 2 (eC (.int 1))) (aCons (eC (.str "index")) (aCons (eFld (ca 6) "variables" (eVar 1)) aNil))))) sNil) (t_do_list_1 ca))
@[simp] theorem t_do_list_2_ap {ca : Nat → Addr} {S : Ms} : t_do_list_2 ca S = (sSeq (sIf (bOf (eOp gIsN (eVar 3) (eC .non))) (sRet (eMeth (ca 5) "fault" 4 (f_Run_fault ca) (eVar 0) (aCons (eOpL gIx 2 (eC (.int 1))) (aCons (eC (.str "index")) (aCons (eFld (ca 6) "variables" (eVar 1)) aNil))))) sNil) (t_do_list_1 ca)) S := rfl
def b_do_list (ca : Nat → Addr) : SF := (sSeq (sAsg (eFn 2 (f_value_of 8) (aCons (eOpL gIx 2 (eC (.int 4))) (aCons (eFld (ca 6) "variables" (eVar 1)) aNil))) (gNm 3)) (t_do_list_2 ca))
def f_do_list (ca : Nat → Addr) : FF := fnM 4 (b_do_list ca)
def t_do_put_1 (ca : Nat → Addr) : SF := (sSeq (sAsg (eVar 5) (gSubV 3 (eVar 4))) (sRet (eC .non)))
@[simp] theorem t_do_put_1_ap {ca : Nat → Addr} {S : Ms} : t_do_put_1 ca S = (sSeq (sAsg (eVar 5) (gSubV 3 (eVar 4))) (sRet (eC .non))) S := rfl
def t_do_put_2 (ca : Nat → Addr) : SF := (sSeq (sIf (bOr (bNot (bOf (eChain gLe gLt (eC (.int 0)) (eVar 4) (eCallV gLen 3)))) (bOf (eOp gIsN (eVar 5) (eC .non)))) (sRet (eMeth (ca 5) "fault" 4 (f_Run_fault ca) (eVar 0) (aCons (eOpL gIx 2 (eC (.int 1))) (aCons (eC (.str "index")) (aCons (eFld (ca 6) "variables" (eVar 1)) aNil))))) sNil) (t_do_put_1 ca))
@[simp] theorem t_do_put_2_ap {ca : Nat → Addr} {S : Ms} : t_do_put_2 ca S = (sSeq (sIf (bOr (bNot (bOf (eChain gLe gLt (eC (.int 0)) (eVar 4) (eCallV gLen 3)))) (bOf (eOp gIsN (eVar 5) (eC .non)))) (sRet (eMeth (ca 5) "fault" 4 (f_Run_fault ca) (eVar 0) (aCons (eOpL gIx 2 (eC (.int 1))) (aCons (eC (.str "index")) (aCons (eFld (ca 6) "variables" (eVar 1)) aNil))))) sNil) (t_do_put_1 ca)) S := rfl
def t_do_put_3 (ca : Nat → Addr) : SF := (sSeq (sAsg (eFn 2 (f_value_of 8) (aCons (eOpL gIx 2 (eC (.int 4))) (aCons (eFld (ca 6) "variables" (eVar 1)) aNil))) (gNm 5)) (t_do_put_2 ca))
@[simp] theorem t_do_put_3_ap {ca : Nat → Addr} {S : Ms} : t_do_put_3 ca S = (sSeq (sAsg (eFn 2 (f_value_of 8) (aCons (eOpL gIx 2 (eC (.int 4))) (aCons (eFld (ca 6) "variables" (eVar 1)) aNil))) (gNm 5)) (t_do_put_2 ca)) S := rfl
def t_do_put_4 (ca : Nat → Addr) : SF := (sSeq (sAsg (eFn 2 (f_value_of 8) (aCons (eOpL gIx 2 (eC (.int 3))) (aCons (eFld (ca 6) "variables" (eVar 1)) aNil))) (gNm 4)) (t_do_put_3 ca))
@[simp] theorem t_do_put_4_ap {ca : Nat → Addr} {S : Ms} : t_do_put_4 ca S = (sSeq (sAsg (eFn 2 (f_value_of 8) (aCons (eOpL gIx 2 (eC (.int 3))) (aCons (eFld (ca 6) "variables" (eVar 1)) aNil))) (gNm 4)) (t_do_put_3 ca)) S := rfl
def b_do_put (ca : Nat → Addr) : SF := (sSeq (sAsg (eOp gIxK (eFld (ca 6) "variables" (eVar 1)) (eOpL gIx 2 (eC (.int 2)))) (gNm 3)) (t_do_put_4 ca))
def f_do_put (ca : Nat → Addr) : FF := fnM 6 (b_do_put ca)
def t_ask_1 (ca : Nat → Addr) : SF := (sSeq (sIf (bOf (eOp gIs2 (eVar 4) (eC (.bl false)))) (sExpr (eMeth (ca 5) "happen" 3 (f_Run_happen ca) (eVar 0) (aCons (eTup (aCons (eC (.str "no")) (aCons (eVar 3) aNil))) (aCons (eFld (ca 6) "variables" (eVar 1)) aNil)))) sNil) (sRet (eVar 4)))
@[simp] theorem t_ask_1_ap {ca : Nat → Addr} {S : Ms} : t_ask_1 ca S = (sSeq (sIf (bOf (eOp gIs2 (eVar 4) (eC (.bl false)))) (sExpr (eMeth (ca 5) "happen" 3 (f_Run_happen ca) (eVar 0) (aCons (eTup (aCons (eC (.str "no")) (aCons (eVar 3) aNil))) (aCons (eFld (ca 6) "variables" (eVar 1)) aNil)))) sNil) (sRet (eVar 4))) S := rfl
def t_ask_2 (ca : Nat → Addr) : SF := (sSeq (sIf (bOf (eOp gIs2 (eVar 4) (eC (.bl true)))) (sExpr (eMeth (ca 5) "happen" 3 (f_Run_happen ca) (eVar 0) (aCons (eTup (aCons (eC (.str "yes")) (aCons (eVar 3) aNil))) (aCons (eFld (ca 6) "variables" (eVar 1)) aNil)))) sNil) (t_ask_1 ca))
@[simp] theorem t_ask_2_ap {ca : Nat → Addr} {S : Ms} : t_ask_2 ca S = (sSeq (sIf (bOf (eOp gIs2 (eVar 4) (eC (.bl true)))) (sExpr (eMeth (ca 5) "happen" 3 (f_Run_happen ca) (eVar 0) (aCons (eTup (aCons (eC (.str "yes")) (aCons (eVar 3) aNil))) (aCons (eFld (ca 6) "variables" (eVar 1)) aNil)))) sNil) (t_ask_1 ca)) S := rfl
def t_ask_3 (ca : Nat → Addr) : SF := (sSeq (sAsg (eFn 2 (f_truth_of 8) (aCons (eOpL gIx 2 (eC (.int 2))) (aCons (eFld (ca 6) "variables" (eVar 1)) aNil))) (gNm 4)) (t_ask_2 ca))
@[simp] theorem t_ask_3_ap {ca : Nat → Addr} {S : Ms} : t_ask_3 ca S = (sSeq (sAsg (eFn 2 (f_truth_of 8) (aCons (eOpL gIx 2 (eC (.int 2))) (aCons (eFld (ca 6) "variables" (eVar 1)) aNil))) (gNm 4)) (t_ask_2 ca)) S := rfl
def t_ask_4 (ca : Nat → Addr) : SF := (sSeq (sExpr (eMeth (ca 5) "happen" 3 (f_Run_happen ca) (eVar 0) (aCons (eTup (aCons (eC (.str "row")) (aCons (eVar 3) aNil))) (aCons (eFld (ca 6) "variables" (eVar 1)) aNil)))) (t_ask_3 ca))
@[simp] theorem t_ask_4_ap {ca : Nat → Addr} {S : Ms} : t_ask_4 ca S = (sSeq (sExpr (eMeth (ca 5) "happen" 3 (f_Run_happen ca) (eVar 0) (aCons (eTup (aCons (eC (.str "row")) (aCons (eVar 3) aNil))) (aCons (eFld (ca 6) "variables" (eVar 1)) aNil)))) (t_ask_3 ca)) S := rfl
def b_ask (ca : Nat → Addr) : SF := (sSeq (sAsg (eOpL gIx 2 (eC (.int 1))) (gNm 3)) (t_ask_4 ca))
def f_ask (ca : Nat → Addr) : FF := fnM 5 (b_ask ca)
def t_do_check_1 (ca : Nat → Addr) : SF := (sSeq (sIf (bNot (bTruV 3)) (sRet (eMeth (ca 5) "fault" 4 (f_Run_fault ca) (eVar 0) (aCons (eOpL gIx 2 (eC (.int 1))) (aCons (eC (.str "check")) (aCons (eFld (ca 6) "variables" (eVar 1)) aNil))))) sNil) (sRet (eC .non)))
@[simp] theorem t_do_check_1_ap {ca : Nat → Addr} {S : Ms} : t_do_check_1 ca S = (sSeq (sIf (bNot (bTruV 3)) (sRet (eMeth (ca 5) "fault" 4 (f_Run_fault ca) (eVar 0) (aCons (eOpL gIx 2 (eC (.int 1))) (aCons (eC (.str "check")) (aCons (eFld (ca 6) "variables" (eVar 1)) aNil))))) sNil) (sRet (eC .non))) S := rfl
def t_do_check_2 (ca : Nat → Addr) : SF := (sSeq (sIf (bOf (eOp gIsN (eVar 3) (eC .non))) (sRet (eMeth (ca 5) "fault" 4 (f_Run_fault ca) (eVar 0) (aCons (eOpL gIx 2 (eC (.int 1))) (aCons (eC (.str "index")) (aCons (eFld (ca 6) "variables" (eVar 1)) aNil))))) sNil) (t_do_check_1 ca))
@[simp] theorem t_do_check_2_ap {ca : Nat → Addr} {S : Ms} : t_do_check_2 ca S = (sSeq (sIf (bOf (eOp gIsN (eVar 3) (eC .non))) (sRet (eMeth (ca 5) "fault" 4 (f_Run_fault ca) (eVar 0) (aCons (eOpL gIx 2 (eC (.int 1))) (aCons (eC (.str "index")) (aCons (eFld (ca 6) "variables" (eVar 1)) aNil))))) sNil) (t_do_check_1 ca)) S := rfl
def b_do_check (ca : Nat → Addr) : SF := (sSeq (sAsg (eFn 3 (f_ask ca) (aCons (eVar 0) (aCons (eVar 1) (aCons (eVar 2) aNil)))) (gNm 3)) (t_do_check_2 ca))
def f_do_check (ca : Nat → Addr) : FF := fnM 4 (b_do_check ca)
def b_do_result (ca : Nat → Addr) : SF := (sSeq (sAsg (eFn 2 (f_value_of 8) (aCons (eOpL gIx 2 (eC (.int 2))) (aCons (eFld (ca 6) "variables" (eVar 1)) aNil))) (gNm 3)) (sSeq (sIf (bOf (eOp gIsN (eVar 3) (eC .non))) (sRet (eMeth (ca 5) "fault" 4 (f_Run_fault ca) (eVar 0) (aCons (eOpL gIx 2 (eC (.int 1))) (aCons (eC (.str "index")) (aCons (eFld (ca 6) "variables" (eVar 1)) aNil))))) sNil) (sRet (eTup (aCons (eOpL gIx 2 (eC (.int 0))) (aCons (eVar 3) aNil))))))
def f_do_result (ca : Nat → Addr) : FF := fnM 4 (b_do_result ca)
def t_do_plain_1 (ca : Nat → Addr) : SF := (sSeq (sIf (bOf (eOp gEq2 (eVar 3) (eC (.str "skip")))) (sRet (eC .non)) sNil) (sRet (eFn 3 (f_do_result ca) (aCons (eVar 0) (aCons (eVar 1) (aCons (eVar 2) aNil))))))
@[simp] theorem t_do_plain_1_ap {ca : Nat → Addr} {S : Ms} : t_do_plain_1 ca S = (sSeq (sIf (bOf (eOp gEq2 (eVar 3) (eC (.str "skip")))) (sRet (eC .non)) sNil) (sRet (eFn 3 (f_do_result ca) (aCons (eVar 0) (aCons (eVar 1) (aCons (eVar 2) aNil)))))) S := rfl
def t_do_plain_2 (ca : Nat → Addr) : SF := (sSeq (sIf (bOf (eOp gEq2 (eVar 3) (eC (.str "refuse")))) (sRet (eMeth (ca 5) "fault" 4 (f_Run_fault ca) (eVar 0) (aCons (eOpL gIx 2 (eC (.int 1))) (aCons (eOpL gIx 2 (eC (.int 2))) (aCons (eFld (ca 6) "variables" (eVar 1)) aNil))))) sNil) (t_do_plain_1 ca))
@[simp] theorem t_do_plain_2_ap {ca : Nat → Addr} {S : Ms} : t_do_plain_2 ca S = (sSeq (sIf (bOf (eOp gEq2 (eVar 3) (eC (.str "refuse")))) (sRet (eMeth (ca 5) "fault" 4 (f_Run_fault ca) (eVar 0) (aCons (eOpL gIx 2 (eC (.int 1))) (aCons (eOpL gIx 2 (eC (.int 2))) (aCons (eFld (ca 6) "variables" (eVar 1)) aNil))))) sNil) (t_do_plain_1 ca)) S := rfl
def t_do_plain_3 (ca : Nat → Addr) : SF := (sSeq (sIf (bOf (eOp gEq2 (eVar 3) (eC (.str "put")))) (sRet (eFn 3 (f_do_put ca) (aCons (eVar 0) (aCons (eVar 1) (aCons (eVar 2) aNil))))) sNil) (t_do_plain_2 ca))
@[simp] theorem t_do_plain_3_ap {ca : Nat → Addr} {S : Ms} : t_do_plain_3 ca S = (sSeq (sIf (bOf (eOp gEq2 (eVar 3) (eC (.str "put")))) (sRet (eFn 3 (f_do_put ca) (aCons (eVar 0) (aCons (eVar 1) (aCons (eVar 2) aNil))))) sNil) (t_do_plain_2 ca)) S := rfl
def t_do_plain_4 (ca : Nat → Addr) : SF := (sSeq (sIf (bOf (eOp gEq2 (eVar 3) (eC (.str "set")))) (sRet (eFn 5 (f_store ca) (aCons (eVar 0) (aCons (eVar 1) (aCons (eOpL gIx 2 (eC (.int 1))) (aCons (eOpL gIx 2 (eC (.int 2))) (aCons (eFn 2 (f_value_of 8) (aCons (eOpL gIx 2 (eC (.int 3))) (aCons (eFld (ca 6) "variables" (eVar 1)) aNil))) aNil))))))) sNil) (t_do_plain_3 ca))
@[simp] theorem t_do_plain_4_ap {ca : Nat → Addr} {S : Ms} : t_do_plain_4 ca S = (sSeq (sIf (bOf (eOp gEq2 (eVar 3) (eC (.str "set")))) (sRet (eFn 5 (f_store ca) (aCons (eVar 0) (aCons (eVar 1) (aCons (eOpL gIx 2 (eC (.int 1))) (aCons (eOpL gIx 2 (eC (.int 2))) (aCons (eFn 2 (f_value_of 8) (aCons (eOpL gIx 2 (eC (.int 3))) (aCons (eFld (ca 6) "variables" (eVar 1)) aNil))) aNil))))))) sNil) (t_do_plain_3 ca)) S := rfl
def t_do_plain_5 (ca : Nat → Addr) : SF := (sSeq (sIf (bOf (eOp gEq2 (eVar 3) (eC (.str "list")))) (sRet (eFn 3 (f_do_list ca) (aCons (eVar 0) (aCons (eVar 1) (aCons (eVar 2) aNil))))) sNil) (t_do_plain_4 ca))
@[simp] theorem t_do_plain_5_ap {ca : Nat → Addr} {S : Ms} : t_do_plain_5 ca S = (sSeq (sIf (bOf (eOp gEq2 (eVar 3) (eC (.str "list")))) (sRet (eFn 3 (f_do_list ca) (aCons (eVar 0) (aCons (eVar 1) (aCons (eVar 2) aNil))))) sNil) (t_do_plain_4 ca)) S := rfl
def t_do_plain_6 (ca : Nat → Addr) : SF := (sSeq (sIf (bOf (eOp gEq2 (eVar 3) (eC (.str "let")))) (sRet (eFn 3 (f_do_let ca) (aCons (eVar 0) (aCons (eVar 1) (aCons (eVar 2) aNil))))) sNil) (t_do_plain_5 ca))
@[simp] theorem t_do_plain_6_ap {ca : Nat → Addr} {S : Ms} : t_do_plain_6 ca S = (sSeq (sIf (bOf (eOp gEq2 (eVar 3) (eC (.str "let")))) (sRet (eFn 3 (f_do_let ca) (aCons (eVar 0) (aCons (eVar 1) (aCons (eVar 2) aNil))))) sNil) (t_do_plain_5 ca)) S := rfl
def b_do_plain (ca : Nat → Addr) : SF := (sSeq (sAsg (eOpL gIx 2 (eC (.int 0))) (gNm 3)) (t_do_plain_6 ca))
def f_do_plain (ca : Nat → Addr) : FF := fnM 4 (b_do_plain ca)
def l_do_call_1 (ca : Nat → Addr) (rec_do_call rec_do_if rec_do_while rec_do_statement rec_do_block : FF) : SF := (sAsg (eFn 2 (f_value_of 8) (aCons (eVar 7) (aCons (eFld (ca 6) "variables" (eVar 2)) aNil))) (gSubK 5 (eVar 6)))
def t_do_call_1 (ca : Nat → Addr) (rec_do_call rec_do_if rec_do_while rec_do_statement rec_do_block : FF) : SF := (sSeq (sIf (bOf (eOp gNe2 (eOpL gIx 8 (eC (.int 0))) (eC (.str "return")))) (sRet (eVar 8)) sNil) (sRet (eFn 5 (f_store ca) (aCons (eVar 0) (aCons (eVar 2) (aCons (eOpL gIx 3 (eC (.int 1))) (aCons (eOpL gIx 3 (eC (.int 2))) (aCons (eOpL gIx 8 (eC (.int 1))) aNil))))))))
@[simp] theorem t_do_call_1_ap {ca : Nat → Addr} {rec_do_call rec_do_if rec_do_while rec_do_statement rec_do_block : FF} {S : Ms} : t_do_call_1 ca rec_do_call rec_do_if rec_do_while rec_do_statement rec_do_block S = (sSeq (sIf (bOf (eOp gNe2 (eOpL gIx 8 (eC (.int 0))) (eC (.str "return")))) (sRet (eVar 8)) sNil) (sRet (eFn 5 (f_store ca) (aCons (eVar 0) (aCons (eVar 2) (aCons (eOpL gIx 3 (eC (.int 1))) (aCons (eOpL gIx 3 (eC (.int 2))) (aCons (eOpL gIx 8 (eC (.int 1))) aNil)))))))) S := rfl
def t_do_call_2 (ca : Nat → Addr) (rec_do_call rec_do_if rec_do_while rec_do_statement rec_do_block : FF) : SF := (sSeq (sIf (bOf (eOp gIsN (eVar 8) (eC .non))) (sAsg (eTup (aCons (eC (.str "return")) (aCons (eC (.int 0)) aNil))) (gNm 8)) sNil) (t_do_call_1 ca rec_do_call rec_do_if rec_do_while rec_do_statement rec_do_block))
@[simp] theorem t_do_call_2_ap {ca : Nat → Addr} {rec_do_call rec_do_if rec_do_while rec_do_statement rec_do_block : FF} {S : Ms} : t_do_call_2 ca rec_do_call rec_do_if rec_do_while rec_do_statement rec_do_block S = (sSeq (sIf (bOf (eOp gIsN (eVar 8) (eC .non))) (sAsg (eTup (aCons (eC (.str "return")) (aCons (eC (.int 0)) aNil))) (gNm 8)) sNil) (t_do_call_1 ca rec_do_call rec_do_if rec_do_while rec_do_statement rec_do_block)) S := rfl
def t_do_call_3 (ca : Nat → Addr) (rec_do_call rec_do_if rec_do_while rec_do_statement rec_do_block : FF) : SF := (sSeq (sAsg (eFn 4 rec_do_block (aCons (eVar 0) (aCons (eVar 1) (aCons (eMake (ca 6) 2 (f_Frame___init__ ca) (aCons (eVar 5) aNil)) (aCons (eOpL gIx 4 (eC (.int 3))) aNil))))) (gNm 8)) (t_do_call_2 ca rec_do_call rec_do_if rec_do_while rec_do_statement rec_do_block))
@[simp] theorem t_do_call_3_ap {ca : Nat → Addr} {rec_do_call rec_do_if rec_do_while rec_do_statement rec_do_block : FF} {S : Ms} : t_do_call_3 ca rec_do_call rec_do_if rec_do_while rec_do_statement rec_do_block S = (sSeq (sAsg (eFn 4 rec_do_block (aCons (eVar 0) (aCons (eVar 1) (aCons (eMake (ca 6) 2 (f_Frame___init__ ca) (aCons (eVar 5) aNil)) (aCons (eOpL gIx 4 (eC (.int 3))) aNil))))) (gNm 8)) (t_do_call_2 ca rec_do_call rec_do_if rec_do_while rec_do_statement rec_do_block)) S := rfl
def t_do_call_4 (ca : Nat → Addr) (rec_do_call rec_do_if rec_do_while rec_do_statement rec_do_block : FF) : SF := (sSeq (sFor (iZip2 (eOpL gIx 4 (eC (.int 2))) (eOpL gIx 3 (eC (.int 4)))) (gTp 2 (gsCons (gNm 6) (gsCons (gNm 7) gsNil))) (l_do_call_1 ca rec_do_call rec_do_if rec_do_while rec_do_statement rec_do_block)) (t_do_call_3 ca rec_do_call rec_do_if rec_do_while rec_do_statement rec_do_block))
@[simp] theorem t_do_call_4_ap {ca : Nat → Addr} {rec_do_call rec_do_if rec_do_while rec_do_statement rec_do_block : FF} {S : Ms} : t_do_call_4 ca rec_do_call rec_do_if rec_do_while rec_do_statement rec_do_block S = (sSeq (sFor (iZip2 (eOpL gIx 4 (eC (.int 2))) (eOpL gIx 3 (eC (.int 4)))) (gTp 2 (gsCons (gNm 6) (gsCons (gNm 7) gsNil))) (l_do_call_1 ca rec_do_call rec_do_if rec_do_while rec_do_statement rec_do_block)) (t_do_call_3 ca rec_do_call rec_do_if rec_do_while rec_do_statement rec_do_block)) S := rfl
def t_do_call_5 (ca : Nat → Addr) (rec_do_call rec_do_if rec_do_while rec_do_statement rec_do_block : FF) : SF := (sSeq (sCell 5 cDK) (t_do_call_4 ca rec_do_call rec_do_if rec_do_while rec_do_statement rec_do_block))
@[simp] theorem t_do_call_5_ap {ca : Nat → Addr} {rec_do_call rec_do_if rec_do_while rec_do_statement rec_do_block : FF} {S : Ms} : t_do_call_5 ca rec_do_call rec_do_if rec_do_while rec_do_statement rec_do_block S = (sSeq (sCell 5 cDK) (t_do_call_4 ca rec_do_call rec_do_if rec_do_while rec_do_statement rec_do_block)) S := rfl
def b_do_call (ca : Nat → Addr) (rec_do_call rec_do_if rec_do_while rec_do_statement rec_do_block : FF) : SF := (sSeq (sAsg (eFn 2 f_find_function (aCons (eFld (ca 3) "functions" (eVar 1)) (aCons (eOpL gIx 3 (eC (.int 3))) aNil))) (gNm 4)) (t_do_call_5 ca rec_do_call rec_do_if rec_do_while rec_do_statement rec_do_block))
def t_do_if_1 (ca : Nat → Addr) (rec_do_call rec_do_if rec_do_while rec_do_statement rec_do_block : FF) : SF := (sSeq (sIf (bTruV 4) (sRet (eFn 4 rec_do_block (aCons (eVar 0) (aCons (eVar 1) (aCons (eVar 2) (aCons (eOpL gIx 3 (eC (.int 3))) aNil)))))) sNil) (sRet (eFn 4 rec_do_block (aCons (eVar 0) (aCons (eVar 1) (aCons (eVar 2) (aCons (eOpL gIx 3 (eC (.int 4))) aNil)))))))
@[simp] theorem t_do_if_1_ap {ca : Nat → Addr} {rec_do_call rec_do_if rec_do_while rec_do_statement rec_do_block : FF} {S : Ms} : t_do_if_1 ca rec_do_call rec_do_if rec_do_while rec_do_statement rec_do_block S = (sSeq (sIf (bTruV 4) (sRet (eFn 4 rec_do_block (aCons (eVar 0) (aCons (eVar 1) (aCons (eVar 2) (aCons (eOpL gIx 3 (eC (.int 3))) aNil)))))) sNil) (sRet (eFn 4 rec_do_block (aCons (eVar 0) (aCons (eVar 1) (aCons (eVar 2) (aCons (eOpL gIx 3 (eC (.int 4))) aNil))))))) S := rfl
def t_do_if_2 (ca : Nat → Addr) (rec_do_call rec_do_if rec_do_while rec_do_statement rec_do_block : FF) : SF := (sSeq (sIf (bOf (eOp gIsN (eVar 4) (eC .non))) (sRet (eMeth (ca 5) "fault" 4 (f_Run_fault ca) (eVar 0) (aCons (eOpL gIx 3 (eC (.int 1))) (aCons (eC (.str "index")) (aCons (eFld (ca 6) "variables" (eVar 2)) aNil))))) sNil) (t_do_if_1 ca rec_do_call rec_do_if rec_do_while rec_do_statement rec_do_block))
@[simp] theorem t_do_if_2_ap {ca : Nat → Addr} {rec_do_call rec_do_if rec_do_while rec_do_statement rec_do_block : FF} {S : Ms} : t_do_if_2 ca rec_do_call rec_do_if rec_do_while rec_do_statement rec_do_block S = (sSeq (sIf (bOf (eOp gIsN (eVar 4) (eC .non))) (sRet (eMeth (ca 5) "fault" 4 (f_Run_fault ca) (eVar 0) (aCons (eOpL gIx 3 (eC (.int 1))) (aCons (eC (.str "index")) (aCons (eFld (ca 6) "variables" (eVar 2)) aNil))))) sNil) (t_do_if_1 ca rec_do_call rec_do_if rec_do_while rec_do_statement rec_do_block)) S := rfl
def b_do_if (ca : Nat → Addr) (rec_do_call rec_do_if rec_do_while rec_do_statement rec_do_block : FF) : SF := (sSeq (sAsg (eFn 3 (f_ask ca) (aCons (eVar 0) (aCons (eVar 2) (aCons (eVar 3) aNil)))) (gNm 4)) (t_do_if_2 ca rec_do_call rec_do_if rec_do_while rec_do_statement rec_do_block))
def t_do_while_1 (ca : Nat → Addr) (rec_do_call rec_do_if rec_do_while rec_do_statement rec_do_block : FF) : SF := (sSeq (sAsg (eFn 4 rec_do_block (aCons (eVar 0) (aCons (eVar 1) (aCons (eVar 2) (aCons (eOpL gIx 3 (eC (.int 4))) aNil))))) (gNm 7)) (sIf (bOf (eOp gNotN (eVar 7) (eC .non))) (sRet (eVar 7)) sNil))
@[simp] theorem t_do_while_1_ap {ca : Nat → Addr} {rec_do_call rec_do_if rec_do_while rec_do_statement rec_do_block : FF} {S : Ms} : t_do_while_1 ca rec_do_call rec_do_if rec_do_while rec_do_statement rec_do_block S = (sSeq (sAsg (eFn 4 rec_do_block (aCons (eVar 0) (aCons (eVar 1) (aCons (eVar 2) (aCons (eOpL gIx 3 (eC (.int 4))) aNil))))) (gNm 7)) (sIf (bOf (eOp gNotN (eVar 7) (eC .non))) (sRet (eVar 7)) sNil)) S := rfl
def t_do_while_2 (ca : Nat → Addr) (rec_do_call rec_do_if rec_do_while rec_do_statement rec_do_block : FF) : SF := (sSeq (sExpr (eMeth (ca 5) "happen" 3 (f_Run_happen ca) (eVar 0) (aCons (eTup (aCons (eC (.str "turn")) (aCons (eVar 4) (aCons (eOp gAdd (eVar 5) (eC (.int 1))) aNil)))) (aCons (eFld (ca 6) "variables" (eVar 2)) aNil)))) (t_do_while_1 ca rec_do_call rec_do_if rec_do_while rec_do_statement rec_do_block))
@[simp] theorem t_do_while_2_ap {ca : Nat → Addr} {rec_do_call rec_do_if rec_do_while rec_do_statement rec_do_block : FF} {S : Ms} : t_do_while_2 ca rec_do_call rec_do_if rec_do_while rec_do_statement rec_do_block S = (sSeq (sExpr (eMeth (ca 5) "happen" 3 (f_Run_happen ca) (eVar 0) (aCons (eTup (aCons (eC (.str "turn")) (aCons (eVar 4) (aCons (eOp gAdd (eVar 5) (eC (.int 1))) aNil)))) (aCons (eFld (ca 6) "variables" (eVar 2)) aNil)))) (t_do_while_1 ca rec_do_call rec_do_if rec_do_while rec_do_statement rec_do_block)) S := rfl
def t_do_while_3 (ca : Nat → Addr) (rec_do_call rec_do_if rec_do_while rec_do_statement rec_do_block : FF) : SF := (sSeq (sIf (bOf (eOp gEq2 (eVar 5) (eOpL gIx 3 (eC (.int 3))))) sBk sNil) (t_do_while_2 ca rec_do_call rec_do_if rec_do_while rec_do_statement rec_do_block))
@[simp] theorem t_do_while_3_ap {ca : Nat → Addr} {rec_do_call rec_do_if rec_do_while rec_do_statement rec_do_block : FF} {S : Ms} : t_do_while_3 ca rec_do_call rec_do_if rec_do_while rec_do_statement rec_do_block S = (sSeq (sIf (bOf (eOp gEq2 (eVar 5) (eOpL gIx 3 (eC (.int 3))))) sBk sNil) (t_do_while_2 ca rec_do_call rec_do_if rec_do_while rec_do_statement rec_do_block)) S := rfl
def t_do_while_4 (ca : Nat → Addr) (rec_do_call rec_do_if rec_do_while rec_do_statement rec_do_block : FF) : SF := (sSeq (sIf (bNot (bTruV 6)) (sRet (eC .non)) sNil) (t_do_while_3 ca rec_do_call rec_do_if rec_do_while rec_do_statement rec_do_block))
@[simp] theorem t_do_while_4_ap {ca : Nat → Addr} {rec_do_call rec_do_if rec_do_while rec_do_statement rec_do_block : FF} {S : Ms} : t_do_while_4 ca rec_do_call rec_do_if rec_do_while rec_do_statement rec_do_block S = (sSeq (sIf (bNot (bTruV 6)) (sRet (eC .non)) sNil) (t_do_while_3 ca rec_do_call rec_do_if rec_do_while rec_do_statement rec_do_block)) S := rfl
def t_do_while_5 (ca : Nat → Addr) (rec_do_call rec_do_if rec_do_while rec_do_statement rec_do_block : FF) : SF := (sSeq (sIf (bOf (eOp gIsN (eVar 6) (eC .non))) (sRet (eMeth (ca 5) "fault" 4 (f_Run_fault ca) (eVar 0) (aCons (eVar 4) (aCons (eC (.str "index")) (aCons (eFld (ca 6) "variables" (eVar 2)) aNil))))) sNil) (t_do_while_4 ca rec_do_call rec_do_if rec_do_while rec_do_statement rec_do_block))
@[simp] theorem t_do_while_5_ap {ca : Nat → Addr} {rec_do_call rec_do_if rec_do_while rec_do_statement rec_do_block : FF} {S : Ms} : t_do_while_5 ca rec_do_call rec_do_if rec_do_while rec_do_statement rec_do_block S = (sSeq (sIf (bOf (eOp gIsN (eVar 6) (eC .non))) (sRet (eMeth (ca 5) "fault" 4 (f_Run_fault ca) (eVar 0) (aCons (eVar 4) (aCons (eC (.str "index")) (aCons (eFld (ca 6) "variables" (eVar 2)) aNil))))) sNil) (t_do_while_4 ca rec_do_call rec_do_if rec_do_while rec_do_statement rec_do_block)) S := rfl
def l_do_while_1 (ca : Nat → Addr) (rec_do_call rec_do_if rec_do_while rec_do_statement rec_do_block : FF) : SF := (sSeq (sAsg (eFn 3 (f_ask ca) (aCons (eVar 0) (aCons (eVar 2) (aCons (eVar 3) aNil)))) (gNm 6)) (t_do_while_5 ca rec_do_call rec_do_if rec_do_while rec_do_statement rec_do_block))
def b_do_while (ca : Nat → Addr) (rec_do_call rec_do_if rec_do_while rec_do_statement rec_do_block : FF) : SF := (sSeq (sAsg (eOpL gIx 3 (eC (.int 1))) (gNm 4)) (sSeq (sFor (iRg1 (eOp gAdd (eOpL gIx 3 (eC (.int 3))) (eC (.int 1)))) (gNm 5) (l_do_while_1 ca rec_do_call rec_do_if rec_do_while rec_do_statement rec_do_block)) (sRet (eMeth (ca 5) "fault" 4 (f_Run_fault ca) (eVar 0) (aCons (eVar 4) (aCons (eC (.str "turns")) (aCons (eFld (ca 6) "variables" (eVar 2)) aNil)))))))
def t_do_statement_1 (ca : Nat → Addr) (rec_do_call rec_do_if rec_do_while rec_do_statement rec_do_block : FF) : SF := (sSeq (sIf (bOf (eOp gEq2 (eOpL gIx 3 (eC (.int 0))) (eC (.str "call")))) (sRet (eFn 4 rec_do_call (aCons (eVar 0) (aCons (eVar 1) (aCons (eVar 2) (aCons (eVar 3) aNil)))))) sNil) (sRet (eFn 3 (f_do_plain ca) (aCons (eVar 0) (aCons (eVar 2) (aCons (eVar 3) aNil))))))
@[simp] theorem t_do_statement_1_ap {ca : Nat → Addr} {rec_do_call rec_do_if rec_do_while rec_do_statement rec_do_block : FF} {S : Ms} : t_do_statement_1 ca rec_do_call rec_do_if rec_do_while rec_do_statement rec_do_block S = (sSeq (sIf (bOf (eOp gEq2 (eOpL gIx 3 (eC (.int 0))) (eC (.str "call")))) (sRet (eFn 4 rec_do_call (aCons (eVar 0) (aCons (eVar 1) (aCons (eVar 2) (aCons (eVar 3) aNil)))))) sNil) (sRet (eFn 3 (f_do_plain ca) (aCons (eVar 0) (aCons (eVar 2) (aCons (eVar 3) aNil)))))) S := rfl
def t_do_statement_2 (ca : Nat → Addr) (rec_do_call rec_do_if rec_do_while rec_do_statement rec_do_block : FF) : SF := (sSeq (sExpr (eMeth (ca 5) "happen" 3 (f_Run_happen ca) (eVar 0) (aCons (eTup (aCons (eC (.str "row")) (aCons (eOpL gIx 3 (eC (.int 1))) aNil))) (aCons (eFld (ca 6) "variables" (eVar 2)) aNil)))) (t_do_statement_1 ca rec_do_call rec_do_if rec_do_while rec_do_statement rec_do_block))
@[simp] theorem t_do_statement_2_ap {ca : Nat → Addr} {rec_do_call rec_do_if rec_do_while rec_do_statement rec_do_block : FF} {S : Ms} : t_do_statement_2 ca rec_do_call rec_do_if rec_do_while rec_do_statement rec_do_block S = (sSeq (sExpr (eMeth (ca 5) "happen" 3 (f_Run_happen ca) (eVar 0) (aCons (eTup (aCons (eC (.str "row")) (aCons (eOpL gIx 3 (eC (.int 1))) aNil))) (aCons (eFld (ca 6) "variables" (eVar 2)) aNil)))) (t_do_statement_1 ca rec_do_call rec_do_if rec_do_while rec_do_statement rec_do_block)) S := rfl
def t_do_statement_3 (ca : Nat → Addr) (rec_do_call rec_do_if rec_do_while rec_do_statement rec_do_block : FF) : SF := (sSeq (sIf (bOf (eOp gEq2 (eOpL gIx 3 (eC (.int 0))) (eC (.str "check")))) (sRet (eFn 3 (f_do_check ca) (aCons (eVar 0) (aCons (eVar 2) (aCons (eVar 3) aNil))))) sNil) (t_do_statement_2 ca rec_do_call rec_do_if rec_do_while rec_do_statement rec_do_block))
@[simp] theorem t_do_statement_3_ap {ca : Nat → Addr} {rec_do_call rec_do_if rec_do_while rec_do_statement rec_do_block : FF} {S : Ms} : t_do_statement_3 ca rec_do_call rec_do_if rec_do_while rec_do_statement rec_do_block S = (sSeq (sIf (bOf (eOp gEq2 (eOpL gIx 3 (eC (.int 0))) (eC (.str "check")))) (sRet (eFn 3 (f_do_check ca) (aCons (eVar 0) (aCons (eVar 2) (aCons (eVar 3) aNil))))) sNil) (t_do_statement_2 ca rec_do_call rec_do_if rec_do_while rec_do_statement rec_do_block)) S := rfl
def t_do_statement_4 (ca : Nat → Addr) (rec_do_call rec_do_if rec_do_while rec_do_statement rec_do_block : FF) : SF := (sSeq (sIf (bOf (eOp gEq2 (eOpL gIx 3 (eC (.int 0))) (eC (.str "if")))) (sRet (eFn 4 rec_do_if (aCons (eVar 0) (aCons (eVar 1) (aCons (eVar 2) (aCons (eVar 3) aNil)))))) sNil) (t_do_statement_3 ca rec_do_call rec_do_if rec_do_while rec_do_statement rec_do_block))
@[simp] theorem t_do_statement_4_ap {ca : Nat → Addr} {rec_do_call rec_do_if rec_do_while rec_do_statement rec_do_block : FF} {S : Ms} : t_do_statement_4 ca rec_do_call rec_do_if rec_do_while rec_do_statement rec_do_block S = (sSeq (sIf (bOf (eOp gEq2 (eOpL gIx 3 (eC (.int 0))) (eC (.str "if")))) (sRet (eFn 4 rec_do_if (aCons (eVar 0) (aCons (eVar 1) (aCons (eVar 2) (aCons (eVar 3) aNil)))))) sNil) (t_do_statement_3 ca rec_do_call rec_do_if rec_do_while rec_do_statement rec_do_block)) S := rfl
def b_do_statement (ca : Nat → Addr) (rec_do_call rec_do_if rec_do_while rec_do_statement rec_do_block : FF) : SF := (sSeq (sIf (bOf (eOp gEq2 (eOpL gIx 3 (eC (.int 0))) (eC (.str "while")))) (sRet (eFn 4 rec_do_while (aCons (eVar 0) (aCons (eVar 1) (aCons (eVar 2) (aCons (eVar 3) aNil)))))) sNil) (t_do_statement_4 ca rec_do_call rec_do_if rec_do_while rec_do_statement rec_do_block))
def l_do_block_1 (ca : Nat → Addr) (rec_do_call rec_do_if rec_do_while rec_do_statement rec_do_block : FF) : SF := (sSeq (sAsg (eFn 4 rec_do_statement (aCons (eVar 0) (aCons (eVar 1) (aCons (eVar 2) (aCons (eVar 4) aNil))))) (gNm 5)) (sIf (bOf (eOp gNotN (eVar 5) (eC .non))) (sRet (eVar 5)) sNil))
def b_do_block (ca : Nat → Addr) (rec_do_call rec_do_if rec_do_while rec_do_statement rec_do_block : FF) : SF := (sSeq (sFor (iSeq (eVar 3)) (gNm 4) (l_do_block_1 ca rec_do_call rec_do_if rec_do_while rec_do_statement rec_do_block)) (sRet (eC .non)))
def g_do_call (ca : Nat → Addr) : Nat → FF × FF × FF × FF × FF
  | 0 => (fnM 9 (fun _ => none), fnM 5 (fun _ => none), fnM 8 (fun _ => none), fnM 4 (fun _ => none), fnM 6 (fun _ => none))
  | n + 1 => (fnM 9 (b_do_call ca ((g_do_call ca n).1) ((g_do_call ca n).2.1) ((g_do_call ca n).2.2.1) ((g_do_call ca n).2.2.2.1) ((g_do_call ca n).2.2.2.2)), fnM 5 (b_do_if ca ((g_do_call ca n).1) ((g_do_call ca n).2.1) ((g_do_call ca n).2.2.1) ((g_do_call ca n).2.2.2.1) ((g_do_call ca n).2.2.2.2)), fnM 8 (b_do_while ca ((g_do_call ca n).1) ((g_do_call ca n).2.1) ((g_do_call ca n).2.2.1) ((g_do_call ca n).2.2.2.1) ((g_do_call ca n).2.2.2.2)), fnM 4 (b_do_statement ca ((g_do_call ca n).1) ((g_do_call ca n).2.1) ((g_do_call ca n).2.2.1) ((g_do_call ca n).2.2.2.1) ((g_do_call ca n).2.2.2.2)), fnM 6 (b_do_block ca ((g_do_call ca n).1) ((g_do_call ca n).2.1) ((g_do_call ca n).2.2.1) ((g_do_call ca n).2.2.2.1) ((g_do_call ca n).2.2.2.2)))
def f_do_call (ca : Nat → Addr) (n : Nat) : FF := (g_do_call ca n).1
def f_do_if (ca : Nat → Addr) (n : Nat) : FF := (g_do_call ca n).2.1
def f_do_while (ca : Nat → Addr) (n : Nat) : FF := (g_do_call ca n).2.2.1
def f_do_statement (ca : Nat → Addr) (n : Nat) : FF := (g_do_call ca n).2.2.2.1
def f_do_block (ca : Nat → Addr) (n : Nat) : FF := (g_do_call ca n).2.2.2.2
theorem f_do_call_succ (ca : Nat → Addr) (n : Nat) : f_do_call ca (n + 1) = fnM 9 (b_do_call ca (f_do_call ca n) (f_do_if ca n) (f_do_while ca n) (f_do_statement ca n) (f_do_block ca n)) := rfl
theorem f_do_if_succ (ca : Nat → Addr) (n : Nat) : f_do_if ca (n + 1) = fnM 5 (b_do_if ca (f_do_call ca n) (f_do_if ca n) (f_do_while ca n) (f_do_statement ca n) (f_do_block ca n)) := rfl
theorem f_do_while_succ (ca : Nat → Addr) (n : Nat) : f_do_while ca (n + 1) = fnM 8 (b_do_while ca (f_do_call ca n) (f_do_if ca n) (f_do_while ca n) (f_do_statement ca n) (f_do_block ca n)) := rfl
theorem f_do_statement_succ (ca : Nat → Addr) (n : Nat) : f_do_statement ca (n + 1) = fnM 4 (b_do_statement ca (f_do_call ca n) (f_do_if ca n) (f_do_while ca n) (f_do_statement ca n) (f_do_block ca n)) := rfl
theorem f_do_block_succ (ca : Nat → Addr) (n : Nat) : f_do_block ca (n + 1) = fnM 6 (b_do_block ca (f_do_call ca n) (f_do_if ca n) (f_do_while ca n) (f_do_statement ca n) (f_do_block ca n)) := rfl
def t_run_program_1 (ca : Nat → Addr) : XF := (xSeq (xL (sIf (bOf (eOp gNotN (eVar 4) (eC .non))) (sFldM (ca 5) "outcome" (eVar 3) (eVar 4)) sNil)) (xL (sRet (eVar 3))))
@[simp] theorem t_run_program_1_ap {ca : Nat → Addr} {S : Ms} : t_run_program_1 ca S = (xSeq (xL (sIf (bOf (eOp gNotN (eVar 4) (eC .non))) (sFldM (ca 5) "outcome" (eVar 3) (eVar 4)) sNil)) (xL (sRet (eVar 3)))) S := rfl
def t_run_program_2 (ca : Nat → Addr) : XF := (xSeq (xL (sAsg (eFn 4 (f_do_block ca 30) (aCons (eVar 3) (aCons (eVar 0) (aCons (eMake (ca 6) 2 (f_Frame___init__ ca) (aCons (eFn 2 (f_input_variables ca) (aCons (eVar 0) (aCons (eVar 1) aNil))) aNil)) (aCons (eFld (ca 3) "body" (eVar 0)) aNil))))) (gNm 4))) (t_run_program_1 ca))
@[simp] theorem t_run_program_2_ap {ca : Nat → Addr} {S : Ms} : t_run_program_2 ca S = (xSeq (xL (sAsg (eFn 4 (f_do_block ca 30) (aCons (eVar 3) (aCons (eVar 0) (aCons (eMake (ca 6) 2 (f_Frame___init__ ca) (aCons (eFn 2 (f_input_variables ca) (aCons (eVar 0) (aCons (eVar 1) aNil))) aNil)) (aCons (eFld (ca 3) "body" (eVar 0)) aNil))))) (gNm 4))) (t_run_program_1 ca)) S := rfl
def t_run_program_3 (ca : Nat → Addr) : XF := (xSeq (xL (sAsg (eMake (ca 5) 2 (f_Run___init__ ca) (aCons (eVar 2) aNil)) (gNm 3))) (t_run_program_2 ca))
@[simp] theorem t_run_program_3_ap {ca : Nat → Addr} {S : Ms} : t_run_program_3 ca S = (xSeq (xL (sAsg (eMake (ca 5) 2 (f_Run___init__ ca) (aCons (eVar 2) aNil)) (gNm 3))) (t_run_program_2 ca)) S := rfl
def b_run_program (ca : Nat → Addr) : XF := (xSeq (xIf (bNot (bTru (eFn 2 (f_is_input ca) (aCons (eVar 0) (aCons (eVar 1) aNil))))) (xRaise 2) xNil) (t_run_program_3 ca))
def f_run_program (ca : Nat → Addr) : FX := fnX 5 (b_run_program ca)
def c_law_draws_1 : EF := (eCall gAbs (eCallV gInt3 5))
def t_law_draws_1 : SF := (sSeq (sAsg (eOp gMod (eCall gInt3 (eOp gAdd (eOp gDiv (eOp gMul3 (eVar 7) (eVar 7)) (eC (.int 4096))) (eVar 7))) (eC (.int 2147483629))) (gNm 7)) (sExpr (eApp 3 (eOp gMod (eCall gInt3 (eOp gAdd (eOp gDiv (eOp gMul3 (eVar 7) (eVar 7)) (eC (.int 4096))) (eOp gMul3 (eVar 4) (eC (.int 7919))))) (eC (.int 2147483629))))))
@[simp] theorem t_law_draws_1_ap {S : Ms} : t_law_draws_1 S = (sSeq (sAsg (eOp gMod (eCall gInt3 (eOp gAdd (eOp gDiv (eOp gMul3 (eVar 7) (eVar 7)) (eC (.int 4096))) (eVar 7))) (eC (.int 2147483629))) (gNm 7)) (sExpr (eApp 3 (eOp gMod (eCall gInt3 (eOp gAdd (eOp gDiv (eOp gMul3 (eVar 7) (eVar 7)) (eC (.int 4096))) (eOp gMul3 (eVar 4) (eC (.int 7919))))) (eC (.int 2147483629)))))) S := rfl
def t_law_draws_2 : SF := (sSeq (sAsg (eOp gMod (eCall gInt3 (eOp gAdd (eOp gAdd (eOp gMul3 (eVar 5) (eC (.int 48271))) (eOp gMul3 (eVar 4) (eC (.int 69621)))) (eC (.int 11)))) (eC (.int 2147483647))) (gNm 7)) t_law_draws_1)
@[simp] theorem t_law_draws_2_ap {S : Ms} : t_law_draws_2 S = (sSeq (sAsg (eOp gMod (eCall gInt3 (eOp gAdd (eOp gAdd (eOp gMul3 (eVar 5) (eC (.int 48271))) (eOp gMul3 (eVar 4) (eC (.int 69621)))) (eC (.int 11)))) (eC (.int 2147483647))) (gNm 7)) t_law_draws_1) S := rfl
def t_law_draws_3 : SF := (sSeq (sIf (bOf (eOp gGt (eCallV gLen 0) (eC (.int 0)))) (sSeq (sAsg (eOp gMod (eVar 4) (eCallV gLen 0)) (gNm 6)) (sSeq (sAsg (eCall gInt3 (eOpL gIx 0 (eVar 6))) (gNm 5)) (sIf (bAnd (bOf (eOp gGe (eVar 5) (eOp gPow (eC (.int 10)) (eC (.int 18))))) (bOf (eOp gGt (eOpL gIx 2 (eVar 6)) (eC (.int 0))))) (sSeq (sExpr (eApp 3 (eOp gMod (eCall gInt3 (eOpL gIx 2 (eVar 6))) (eC (.int 1000003))))) (sSeq (sAsg (eOp gDiv (eCall gInt3 (eOpL gIx 2 (eVar 6))) (eC (.int 1000003))) (gSubV 2 (eVar 6))) sCt)) sNil))) sNil) t_law_draws_2)
@[simp] theorem t_law_draws_3_ap {S : Ms} : t_law_draws_3 S = (sSeq (sIf (bOf (eOp gGt (eCallV gLen 0) (eC (.int 0)))) (sSeq (sAsg (eOp gMod (eVar 4) (eCallV gLen 0)) (gNm 6)) (sSeq (sAsg (eCall gInt3 (eOpL gIx 0 (eVar 6))) (gNm 5)) (sIf (bAnd (bOf (eOp gGe (eVar 5) (eOp gPow (eC (.int 10)) (eC (.int 18))))) (bOf (eOp gGt (eOpL gIx 2 (eVar 6)) (eC (.int 0))))) (sSeq (sExpr (eApp 3 (eOp gMod (eCall gInt3 (eOpL gIx 2 (eVar 6))) (eC (.int 1000003))))) (sSeq (sAsg (eOp gDiv (eCall gInt3 (eOpL gIx 2 (eVar 6))) (eC (.int 1000003))) (gSubV 2 (eVar 6))) sCt)) sNil))) sNil) t_law_draws_2) S := rfl
def l_law_draws_1 : SF := (sSeq (sAsg (eVar 4) (gNm 5)) t_law_draws_3)
def t_law_draws_4 : SF := (sSeq (sFor (iRg1 (eVar 1)) (gNm 4) l_law_draws_1) (sRet (eVar 3)))
@[simp] theorem t_law_draws_4_ap {S : Ms} : t_law_draws_4 S = (sSeq (sFor (iRg1 (eVar 1)) (gNm 4) l_law_draws_1) (sRet (eVar 3))) S := rfl
def t_law_draws_5 : SF := (sSeq (sOwn 3 (cLst aNil)) t_law_draws_4)
@[simp] theorem t_law_draws_5_ap {S : Ms} : t_law_draws_5 S = (sSeq (sOwn 3 (cLst aNil)) t_law_draws_4) S := rfl
def b_law_draws : SF := (sSeq (sOwn 2 (cLc (iSeq (eVar 0)) (gNm 5) bYes c_law_draws_1 [5])) t_law_draws_5)
def f_law_draws : FF := fnM 8 b_law_draws
def t_law_take_1 : SF := (sSeq (sIf (bOf (eOp gGe (eVar 2) (eCallV gLen 3))) (sRet (eC (.int 0))) sNil) (sRet (eOp gMod (eOp gDiv (eCall gInt3 (eOpL gIx 3 (eVar 2))) (eC (.int 7))) (eVar 1))))
@[simp] theorem t_law_take_1_ap {S : Ms} : t_law_take_1 S = (sSeq (sIf (bOf (eOp gGe (eVar 2) (eCallV gLen 3))) (sRet (eC (.int 0))) sNil) (sRet (eOp gMod (eOp gDiv (eCall gInt3 (eOpL gIx 3 (eVar 2))) (eC (.int 7))) (eVar 1)))) S := rfl
def t_law_take_2 : SF := (sSeq (sAsg (eOpL gIx 0 (eC (.int 0))) (gNm 3)) t_law_take_1)
@[simp] theorem t_law_take_2_ap {S : Ms} : t_law_take_2 S = (sSeq (sAsg (eOpL gIx 0 (eC (.int 0))) (gNm 3)) t_law_take_1) S := rfl
def t_law_take_3 : SF := (sSeq (sAsg (eOp gAdd (eVar 2) (eC (.int 1))) (gSubV 0 (eC (.int 1)))) t_law_take_2)
@[simp] theorem t_law_take_3_ap {S : Ms} : t_law_take_3 S = (sSeq (sAsg (eOp gAdd (eVar 2) (eC (.int 1))) (gSubV 0 (eC (.int 1)))) t_law_take_2) S := rfl
def b_law_take : SF := (sSeq (sAsg (eOpL gIx 0 (eC (.int 1))) (gNm 2)) t_law_take_3)
def f_law_take : FF := fnM 4 b_law_take
def l_law_same_1 (rec : FF) : SF := (sIf (bNot (bTru (eFn 2 rec (aCons (eOpL gIx 0 (eVar 2)) (aCons (eOpL gIx 1 (eVar 2)) aNil))))) (sRet (eC (.bl false))) sNil)
def t_law_same_1 (rec : FF) : SF := (sSeq (sIf (bOf (eOp gIsN (eVar 1) (eC .non))) (sRet (eOp gIsN (eVar 0) (eC .non))) sNil) (sRet (eAnd (eIsiC "int" (eVar 0)) (eAnd (eNot (eIsiC "bool" (eVar 0))) (eOp gEq2 (eVar 0) (eVar 1))))))
@[simp] theorem t_law_same_1_ap {rec : FF} {S : Ms} : t_law_same_1 rec S = (sSeq (sIf (bOf (eOp gIsN (eVar 1) (eC .non))) (sRet (eOp gIsN (eVar 0) (eC .non))) sNil) (sRet (eAnd (eIsiC "int" (eVar 0)) (eAnd (eNot (eIsiC "bool" (eVar 0))) (eOp gEq2 (eVar 0) (eVar 1)))))) S := rfl
def t_law_same_2 (rec : FF) : SF := (sSeq (sIf (bTru (eIsiC "str" (eVar 1))) (sRet (eAnd (eIsiC "str" (eVar 0)) (eOp gEq2 (eVar 0) (eVar 1)))) sNil) (t_law_same_1 rec))
@[simp] theorem t_law_same_2_ap {rec : FF} {S : Ms} : t_law_same_2 rec S = (sSeq (sIf (bTru (eIsiC "str" (eVar 1))) (sRet (eAnd (eIsiC "str" (eVar 0)) (eOp gEq2 (eVar 0) (eVar 1)))) sNil) (t_law_same_1 rec)) S := rfl
def b_law_same (rec : FF) : SF := (sSeq (sIf (bTru (eIsiC "tuple" (eVar 1))) (sSeq (sIf (bOr (bNot (bTru (eIsiC "tuple" (eVar 0)))) (bOf (eOp gNe2 (eCallV gLen 0) (eCallV gLen 1)))) (sRet (eC (.bl false))) sNil) (sSeq (sFor (iRg1 (eCallV gLen 1)) (gNm 2) (l_law_same_1 rec)) (sRet (eC (.bl true))))) sNil) (t_law_same_2 rec))
def f_law_same : Nat → FF
  | 0 => fnM 3 (fun _ => none)
  | n + 1 => fnM 3 (b_law_same (f_law_same n))
def t_law_program_1 (ca : Nat → Addr) : SF := (sSeq (sExpr (eApp 5 (eTup (aCons (eC (.str "answer")) (aCons (eC (.int 20)) (aCons (eTup (aCons (eC (.str "var")) (aCons (eOp gIx (eNew (cLst (aCons (eC (.str "a")) (aCons (eC (.str "b")) (aCons (eC (.str "n")) (aCons (eC (.str "r")) aNil)))))) (eOpL gIx 0 (eC (.int 7)))) (aCons (eC (.int 0)) aNil)))) aNil)))))) (sRet (eMake (ca 3) 4 (f_Program___init__ ca) (aCons (eTup (aCons (eTup (aCons (eC (.str "a")) (aCons (eC (.int 0)) (aCons (eUn gNeg (eC (.int 20))) (aCons (eC (.int 20)) aNil))))) (aCons (eTup (aCons (eC (.str "b")) (aCons (eC (.int 0)) (aCons (eUn gNeg (eC (.int 20))) (aCons (eC (.int 20)) aNil))))) aNil))) (aCons (eTup (aCons (eTup (aCons (eC (.int 3)) (aCons (eC (.str "f")) (aCons (eTup (aCons (eC (.str "a")) aNil)) (aCons (eVar 2) aNil))))) (aCons (eTup (aCons (eC (.int 10)) (aCons (eC (.str "g")) (aCons (eTup (aCons (eC (.str "x")) (aCons (eC (.str "y")) aNil))) (aCons (eVar 4) aNil))))) aNil))) (aCons (eCallV gTuple 5) aNil))))))
@[simp] theorem t_law_program_1_ap {ca : Nat → Addr} {S : Ms} : t_law_program_1 ca S = (sSeq (sExpr (eApp 5 (eTup (aCons (eC (.str "answer")) (aCons (eC (.int 20)) (aCons (eTup (aCons (eC (.str "var")) (aCons (eOp gIx (eNew (cLst (aCons (eC (.str "a")) (aCons (eC (.str "b")) (aCons (eC (.str "n")) (aCons (eC (.str "r")) aNil)))))) (eOpL gIx 0 (eC (.int 7)))) (aCons (eC (.int 0)) aNil)))) aNil)))))) (sRet (eMake (ca 3) 4 (f_Program___init__ ca) (aCons (eTup (aCons (eTup (aCons (eC (.str "a")) (aCons (eC (.int 0)) (aCons (eUn gNeg (eC (.int 20))) (aCons (eC (.int 20)) aNil))))) (aCons (eTup (aCons (eC (.str "b")) (aCons (eC (.int 0)) (aCons (eUn gNeg (eC (.int 20))) (aCons (eC (.int 20)) aNil))))) aNil))) (aCons (eTup (aCons (eTup (aCons (eC (.int 3)) (aCons (eC (.str "f")) (aCons (eTup (aCons (eC (.str "a")) aNil)) (aCons (eVar 2) aNil))))) (aCons (eTup (aCons (eC (.int 10)) (aCons (eC (.str "g")) (aCons (eTup (aCons (eC (.str "x")) (aCons (eC (.str "y")) aNil))) (aCons (eVar 4) aNil))))) aNil))) (aCons (eCallV gTuple 5) aNil)))))) S := rfl
def t_law_program_2 (ca : Nat → Addr) : SF := (sSeq (sExpr (eApp 5 (eTup (aCons (eC (.str "set")) (aCons (eC (.int 19)) (aCons (eC (.str "r")) (aCons (eTup (aCons (eC (.str "var")) (aCons (eC (.str "n")) (aCons (eUn gNeg (eC (.int 1))) aNil)))) aNil))))))) (t_law_program_1 ca))
@[simp] theorem t_law_program_2_ap {ca : Nat → Addr} {S : Ms} : t_law_program_2 ca S = (sSeq (sExpr (eApp 5 (eTup (aCons (eC (.str "set")) (aCons (eC (.int 19)) (aCons (eC (.str "r")) (aCons (eTup (aCons (eC (.str "var")) (aCons (eC (.str "n")) (aCons (eUn gNeg (eC (.int 1))) aNil)))) aNil))))))) (t_law_program_1 ca)) S := rfl
def t_law_program_3 (ca : Nat → Addr) : SF := (sSeq (sExpr (eApp 5 (eTup (aCons (eC (.str "call")) (aCons (eC (.int 18)) (aCons (eC (.str "n")) (aCons (eC (.str "g")) (aCons (eTup (aCons (eTup (aCons (eC (.str "var")) (aCons (eC (.str "n")) (aCons (eC (.int 0)) aNil)))) (aCons (eTup (aCons (eC (.str "var")) (aCons (eC (.str "r")) (aCons (eC (.int 0)) aNil)))) aNil))) aNil)))))))) (t_law_program_2 ca))
@[simp] theorem t_law_program_3_ap {ca : Nat → Addr} {S : Ms} : t_law_program_3 ca S = (sSeq (sExpr (eApp 5 (eTup (aCons (eC (.str "call")) (aCons (eC (.int 18)) (aCons (eC (.str "n")) (aCons (eC (.str "g")) (aCons (eTup (aCons (eTup (aCons (eC (.str "var")) (aCons (eC (.str "n")) (aCons (eC (.int 0)) aNil)))) (aCons (eTup (aCons (eC (.str "var")) (aCons (eC (.str "r")) (aCons (eC (.int 0)) aNil)))) aNil))) aNil)))))))) (t_law_program_2 ca)) S := rfl
def t_law_program_4 (ca : Nat → Addr) : SF := (sSeq (sExpr (eApp 5 (eTup (aCons (eC (.str "call")) (aCons (eC (.int 17)) (aCons (eC (.str "r")) (aCons (eC (.str "f")) (aCons (eTup (aCons (eTup (aCons (eC (.str "var")) (aCons (eC (.str "a")) (aCons (eC (.int 0)) aNil)))) aNil)) aNil)))))))) (t_law_program_3 ca))
@[simp] theorem t_law_program_4_ap {ca : Nat → Addr} {S : Ms} : t_law_program_4 ca S = (sSeq (sExpr (eApp 5 (eTup (aCons (eC (.str "call")) (aCons (eC (.int 17)) (aCons (eC (.str "r")) (aCons (eC (.str "f")) (aCons (eTup (aCons (eTup (aCons (eC (.str "var")) (aCons (eC (.str "a")) (aCons (eC (.int 0)) aNil)))) aNil)) aNil)))))))) (t_law_program_3 ca)) S := rfl
def t_law_program_5 (ca : Nat → Addr) : SF := (sSeq (sOwn 5 (cLst (aCons (eTup (aCons (eC (.str "let")) (aCons (eC (.int 15)) (aCons (eC (.str "n")) (aCons (eC .non) (aCons (eC .non) (aCons (eTup (aCons (eC (.str "num")) (aCons (eOpL gIx 0 (eC (.int 4))) aNil))) aNil))))))) (aCons (eTup (aCons (eC (.str "let")) (aCons (eC (.int 16)) (aCons (eC (.str "r")) (aCons (eOpL gIx 0 (eC (.int 5))) (aCons (eOpL gIx 0 (eC (.int 6))) (aCons (eTup (aCons (eC (.str "var")) (aCons (eC (.str "b")) (aCons (eC (.int 0)) aNil)))) aNil))))))) aNil)))) (t_law_program_4 ca))
@[simp] theorem t_law_program_5_ap {ca : Nat → Addr} {S : Ms} : t_law_program_5 ca S = (sSeq (sOwn 5 (cLst (aCons (eTup (aCons (eC (.str "let")) (aCons (eC (.int 15)) (aCons (eC (.str "n")) (aCons (eC .non) (aCons (eC .non) (aCons (eTup (aCons (eC (.str "num")) (aCons (eOpL gIx 0 (eC (.int 4))) aNil))) aNil))))))) (aCons (eTup (aCons (eC (.str "let")) (aCons (eC (.int 16)) (aCons (eC (.str "r")) (aCons (eOpL gIx 0 (eC (.int 5))) (aCons (eOpL gIx 0 (eC (.int 6))) (aCons (eTup (aCons (eC (.str "var")) (aCons (eC (.str "b")) (aCons (eC (.int 0)) aNil)))) aNil))))))) aNil)))) (t_law_program_4 ca)) S := rfl
def t_law_program_6 (ca : Nat → Addr) : SF := (sSeq (sAsg (eTup (aCons (eTup (aCons (eC (.str "call")) (aCons (eC (.int 11)) (aCons (eC (.str "x")) (aCons (eC (.str "f")) (aCons (eTup (aCons (eTup (aCons (eC (.str "var")) (aCons (eC (.str "y")) (aCons (eC (.int 0)) aNil)))) aNil)) aNil)))))) (aCons (eVar 3) (aCons (eTup (aCons (eC (.str "return")) (aCons (eC (.int 13)) (aCons (eTup (aCons (eC (.str "var")) (aCons (eC (.str "x")) (aCons (eC (.int 1)) aNil)))) aNil)))) aNil)))) (gNm 4)) (t_law_program_5 ca))
@[simp] theorem t_law_program_6_ap {ca : Nat → Addr} {S : Ms} : t_law_program_6 ca S = (sSeq (sAsg (eTup (aCons (eTup (aCons (eC (.str "call")) (aCons (eC (.int 11)) (aCons (eC (.str "x")) (aCons (eC (.str "f")) (aCons (eTup (aCons (eTup (aCons (eC (.str "var")) (aCons (eC (.str "y")) (aCons (eC (.int 0)) aNil)))) aNil)) aNil)))))) (aCons (eVar 3) (aCons (eTup (aCons (eC (.str "return")) (aCons (eC (.int 13)) (aCons (eTup (aCons (eC (.str "var")) (aCons (eC (.str "x")) (aCons (eC (.int 1)) aNil)))) aNil)))) aNil)))) (gNm 4)) (t_law_program_5 ca)) S := rfl
def t_law_program_7 (ca : Nat → Addr) : SF := (sSeq (sAsg (eTup (aCons (eC (.str "check")) (aCons (eC (.int 12)) (aCons (eTup (aCons (eC (.str "cmp")) (aCons (eC (.str "<=")) (aCons (eTup (aCons (eC (.str "var")) (aCons (eC (.str "x")) (aCons (eC (.int 0)) aNil)))) (aCons (eTup (aCons (eC (.str "num")) (aCons (eOpL gIx 0 (eC (.int 3))) aNil))) aNil))))) aNil)))) (gNm 3)) (t_law_program_6 ca))
@[simp] theorem t_law_program_7_ap {ca : Nat → Addr} {S : Ms} : t_law_program_7 ca S = (sSeq (sAsg (eTup (aCons (eC (.str "check")) (aCons (eC (.int 12)) (aCons (eTup (aCons (eC (.str "cmp")) (aCons (eC (.str "<=")) (aCons (eTup (aCons (eC (.str "var")) (aCons (eC (.str "x")) (aCons (eC (.int 0)) aNil)))) (aCons (eTup (aCons (eC (.str "num")) (aCons (eOpL gIx 0 (eC (.int 3))) aNil))) aNil))))) aNil)))) (gNm 3)) (t_law_program_6 ca)) S := rfl
def t_law_program_8 (ca : Nat → Addr) : SF := (sSeq (sAsg (eTup (aCons (eTup (aCons (eC (.str "let")) (aCons (eC (.int 4)) (aCons (eC (.str "n")) (aCons (eC .non) (aCons (eC .non) (aCons (eTup (aCons (eC (.str "var")) (aCons (eC (.str "a")) (aCons (eC (.int 3)) aNil)))) aNil))))))) (aCons (eTup (aCons (eC (.str "set")) (aCons (eC (.int 5)) (aCons (eC (.str "a")) (aCons (eTup (aCons (eC (.str "var")) (aCons (eC (.str "n")) (aCons (eOpL gIx 0 (eC (.int 2))) aNil)))) aNil))))) (aCons (eVar 1) aNil)))) (gNm 2)) (t_law_program_7 ca))
@[simp] theorem t_law_program_8_ap {ca : Nat → Addr} {S : Ms} : t_law_program_8 ca S = (sSeq (sAsg (eTup (aCons (eTup (aCons (eC (.str "let")) (aCons (eC (.int 4)) (aCons (eC (.str "n")) (aCons (eC .non) (aCons (eC .non) (aCons (eTup (aCons (eC (.str "var")) (aCons (eC (.str "a")) (aCons (eC (.int 3)) aNil)))) aNil))))))) (aCons (eTup (aCons (eC (.str "set")) (aCons (eC (.int 5)) (aCons (eC (.str "a")) (aCons (eTup (aCons (eC (.str "var")) (aCons (eC (.str "n")) (aCons (eOpL gIx 0 (eC (.int 2))) aNil)))) aNil))))) (aCons (eVar 1) aNil)))) (gNm 2)) (t_law_program_7 ca)) S := rfl
def b_law_program (ca : Nat → Addr) : SF := (sSeq (sAsg (eTup (aCons (eC (.str "if")) (aCons (eC (.int 6)) (aCons (eTup (aCons (eC (.str "cmp")) (aCons (eC (.str "<")) (aCons (eTup (aCons (eC (.str "var")) (aCons (eC (.str "a")) (aCons (eC (.int 0)) aNil)))) (aCons (eTup (aCons (eC (.str "num")) (aCons (eOpL gIx 0 (eC (.int 0))) aNil))) aNil))))) (aCons (eTup (aCons (eTup (aCons (eC (.str "return")) (aCons (eC (.int 7)) (aCons (eTup (aCons (eC (.str "var")) (aCons (eC (.str "a")) (aCons (eOpL gIx 0 (eC (.int 1))) aNil)))) aNil)))) aNil)) (aCons (eTup aNil) aNil)))))) (gNm 1)) (t_law_program_8 ca))
def f_law_program (ca : Nat → Addr) : FF := fnM 6 (b_law_program ca)
def t_law_first_1 : SF := (sSeq (sExpr (eApp 0 (eTup (aCons (eC (.str "no")) (aCons (eC (.int 6)) aNil))))) (sRet (eC (.int 0))))
@[simp] theorem t_law_first_1_ap {S : Ms} : t_law_first_1 S = (sSeq (sExpr (eApp 0 (eTup (aCons (eC (.str "no")) (aCons (eC (.int 6)) aNil))))) (sRet (eC (.int 0)))) S := rfl
def t_law_first_2 : SF := (sSeq (sIf (bOf (eOp gLt (eVar 2) (eOpL gIx 1 (eC (.int 0))))) (sSeq (sExpr (eApp 0 (eTup (aCons (eC (.str "yes")) (aCons (eC (.int 6)) aNil))))) (sSeq (sExpr (eApp 0 (eTup (aCons (eC (.str "row")) (aCons (eC (.int 7)) aNil))))) (sRet (eOp gAdd (eVar 2) (eOpL gIx 1 (eC (.int 1))))))) sNil) t_law_first_1)
@[simp] theorem t_law_first_2_ap {S : Ms} : t_law_first_2 S = (sSeq (sIf (bOf (eOp gLt (eVar 2) (eOpL gIx 1 (eC (.int 0))))) (sSeq (sExpr (eApp 0 (eTup (aCons (eC (.str "yes")) (aCons (eC (.int 6)) aNil))))) (sSeq (sExpr (eApp 0 (eTup (aCons (eC (.str "row")) (aCons (eC (.int 7)) aNil))))) (sRet (eOp gAdd (eVar 2) (eOpL gIx 1 (eC (.int 1))))))) sNil) t_law_first_1) S := rfl
def t_law_first_3 : SF := (sSeq (sExpr (eApp 0 (eTup (aCons (eC (.str "row")) (aCons (eC (.int 6)) aNil))))) t_law_first_2)
@[simp] theorem t_law_first_3_ap {S : Ms} : t_law_first_3 S = (sSeq (sExpr (eApp 0 (eTup (aCons (eC (.str "row")) (aCons (eC (.int 6)) aNil))))) t_law_first_2) S := rfl
def t_law_first_4 : SF := (sSeq (sExpr (eApp 0 (eTup (aCons (eC (.str "row")) (aCons (eC (.int 5)) aNil))))) t_law_first_3)
@[simp] theorem t_law_first_4_ap {S : Ms} : t_law_first_4 S = (sSeq (sExpr (eApp 0 (eTup (aCons (eC (.str "row")) (aCons (eC (.int 5)) aNil))))) t_law_first_3) S := rfl
def t_law_first_5 : SF := (sSeq (sExpr (eApp 0 (eTup (aCons (eC (.str "row")) (aCons (eC (.int 4)) aNil))))) t_law_first_4)
@[simp] theorem t_law_first_5_ap {S : Ms} : t_law_first_5 S = (sSeq (sExpr (eApp 0 (eTup (aCons (eC (.str "row")) (aCons (eC (.int 4)) aNil))))) t_law_first_4) S := rfl
def b_law_first : SF := (sSeq (sAsg (eOp gAdd (eOp gAdd (eVar 2) (eC (.int 3))) (eOpL gIx 1 (eC (.int 2)))) (gNm 2)) t_law_first_5)
def f_law_first : FF := fnM 3 b_law_first
def t_law_second_1 : SF := (sSeq (sExpr (eApp 0 (eTup (aCons (eC (.str "fault")) (aCons (eC (.int 12)) (aCons (eC (.str "check")) aNil)))))) (sRet (eC .non)))
@[simp] theorem t_law_second_1_ap {S : Ms} : t_law_second_1 S = (sSeq (sExpr (eApp 0 (eTup (aCons (eC (.str "fault")) (aCons (eC (.int 12)) (aCons (eC (.str "check")) aNil)))))) (sRet (eC .non))) S := rfl
def t_law_second_2 : SF := (sSeq (sExpr (eApp 0 (eTup (aCons (eC (.str "no")) (aCons (eC (.int 12)) aNil))))) t_law_second_1)
@[simp] theorem t_law_second_2_ap {S : Ms} : t_law_second_2 S = (sSeq (sExpr (eApp 0 (eTup (aCons (eC (.str "no")) (aCons (eC (.int 12)) aNil))))) t_law_second_1) S := rfl
def t_law_second_3 : SF := (sSeq (sIf (bOf (eOp gLe (eVar 2) (eOpL gIx 1 (eC (.int 3))))) (sSeq (sExpr (eApp 0 (eTup (aCons (eC (.str "yes")) (aCons (eC (.int 12)) aNil))))) (sSeq (sExpr (eApp 0 (eTup (aCons (eC (.str "row")) (aCons (eC (.int 13)) aNil))))) (sRet (eOp gAdd (eVar 2) (eC (.int 1)))))) sNil) t_law_second_2)
@[simp] theorem t_law_second_3_ap {S : Ms} : t_law_second_3 S = (sSeq (sIf (bOf (eOp gLe (eVar 2) (eOpL gIx 1 (eC (.int 3))))) (sSeq (sExpr (eApp 0 (eTup (aCons (eC (.str "yes")) (aCons (eC (.int 12)) aNil))))) (sSeq (sExpr (eApp 0 (eTup (aCons (eC (.str "row")) (aCons (eC (.int 13)) aNil))))) (sRet (eOp gAdd (eVar 2) (eC (.int 1)))))) sNil) t_law_second_2) S := rfl
def t_law_second_4 : SF := (sSeq (sExpr (eApp 0 (eTup (aCons (eC (.str "row")) (aCons (eC (.int 12)) aNil))))) t_law_second_3)
@[simp] theorem t_law_second_4_ap {S : Ms} : t_law_second_4 S = (sSeq (sExpr (eApp 0 (eTup (aCons (eC (.str "row")) (aCons (eC (.int 12)) aNil))))) t_law_second_3) S := rfl
def t_law_second_5 : SF := (sSeq (sAsg (eFn 3 f_law_first (aCons (eVar 0) (aCons (eVar 1) (aCons (eVar 2) aNil)))) (gNm 2)) t_law_second_4)
@[simp] theorem t_law_second_5_ap {S : Ms} : t_law_second_5 S = (sSeq (sAsg (eFn 3 f_law_first (aCons (eVar 0) (aCons (eVar 1) (aCons (eVar 2) aNil)))) (gNm 2)) t_law_second_4) S := rfl
def b_law_second : SF := (sSeq (sExpr (eApp 0 (eTup (aCons (eC (.str "row")) (aCons (eC (.int 11)) aNil))))) t_law_second_5)
def f_law_second : FF := fnM 3 b_law_second
def t_law_steps_1 : SF := (sSeq (sExpr (eApp 3 (eTup (aCons (eC (.str "row")) (aCons (eC (.int 20)) aNil))))) (sRet (eNew (cLst (aCons (eVar 3) (aCons (eTup (aCons (eC (.str "answer")) (aCons (eOp gIx (eNew (cLst (aCons (eVar 1) (aCons (eVar 2) (aCons (eVar 5) (aCons (eVar 4) aNil)))))) (eOpL gIx 0 (eC (.int 7)))) aNil))) aNil))))))
@[simp] theorem t_law_steps_1_ap {S : Ms} : t_law_steps_1 S = (sSeq (sExpr (eApp 3 (eTup (aCons (eC (.str "row")) (aCons (eC (.int 20)) aNil))))) (sRet (eNew (cLst (aCons (eVar 3) (aCons (eTup (aCons (eC (.str "answer")) (aCons (eOp gIx (eNew (cLst (aCons (eVar 1) (aCons (eVar 2) (aCons (eVar 5) (aCons (eVar 4) aNil)))))) (eOpL gIx 0 (eC (.int 7)))) aNil))) aNil)))))) S := rfl
def t_law_steps_2 : SF := (sSeq (sIf (bOr (bOf (eOp gLt (eVar 4) (eOpL gIx 0 (eC (.int 5))))) (bOf (eOp gGt (eVar 4) (eOpL gIx 0 (eC (.int 6)))))) (sSeq (sExpr (eApp 3 (eTup (aCons (eC (.str "fault")) (aCons (eC (.int 19)) (aCons (eC (.str "range")) aNil)))))) (sRet (eNew (cLst (aCons (eVar 3) (aCons (eTup (aCons (eC (.str "fault")) (aCons (eC (.int 19)) (aCons (eC (.str "range")) aNil)))) aNil)))))) sNil) t_law_steps_1)
@[simp] theorem t_law_steps_2_ap {S : Ms} : t_law_steps_2 S = (sSeq (sIf (bOr (bOf (eOp gLt (eVar 4) (eOpL gIx 0 (eC (.int 5))))) (bOf (eOp gGt (eVar 4) (eOpL gIx 0 (eC (.int 6)))))) (sSeq (sExpr (eApp 3 (eTup (aCons (eC (.str "fault")) (aCons (eC (.int 19)) (aCons (eC (.str "range")) aNil)))))) (sRet (eNew (cLst (aCons (eVar 3) (aCons (eTup (aCons (eC (.str "fault")) (aCons (eC (.int 19)) (aCons (eC (.str "range")) aNil)))) aNil)))))) sNil) t_law_steps_1) S := rfl
def t_law_steps_3 : SF := (sSeq (sAsg (eOp gSub (eVar 5) (eC (.int 1))) (gNm 4)) t_law_steps_2)
@[simp] theorem t_law_steps_3_ap {S : Ms} : t_law_steps_3 S = (sSeq (sAsg (eOp gSub (eVar 5) (eC (.int 1))) (gNm 4)) t_law_steps_2) S := rfl
def t_law_steps_4 : SF := (sSeq (sExpr (eApp 3 (eTup (aCons (eC (.str "row")) (aCons (eC (.int 19)) aNil))))) t_law_steps_3)
@[simp] theorem t_law_steps_4_ap {S : Ms} : t_law_steps_4 S = (sSeq (sExpr (eApp 3 (eTup (aCons (eC (.str "row")) (aCons (eC (.int 19)) aNil))))) t_law_steps_3) S := rfl
def t_law_steps_5 : SF := (sSeq (sIf (bOf (eOp gIsN (eVar 5) (eC .non))) (sRet (eNew (cLst (aCons (eVar 3) (aCons (eTup (aCons (eC (.str "fault")) (aCons (eC (.int 12)) (aCons (eC (.str "check")) aNil)))) aNil))))) sNil) t_law_steps_4)
@[simp] theorem t_law_steps_5_ap {S : Ms} : t_law_steps_5 S = (sSeq (sIf (bOf (eOp gIsN (eVar 5) (eC .non))) (sRet (eNew (cLst (aCons (eVar 3) (aCons (eTup (aCons (eC (.str "fault")) (aCons (eC (.int 12)) (aCons (eC (.str "check")) aNil)))) aNil))))) sNil) t_law_steps_4) S := rfl
def t_law_steps_6 : SF := (sSeq (sAsg (eFn 3 f_law_second (aCons (eVar 3) (aCons (eVar 0) (aCons (eVar 4) aNil)))) (gNm 5)) t_law_steps_5)
@[simp] theorem t_law_steps_6_ap {S : Ms} : t_law_steps_6 S = (sSeq (sAsg (eFn 3 f_law_second (aCons (eVar 3) (aCons (eVar 0) (aCons (eVar 4) aNil)))) (gNm 5)) t_law_steps_5) S := rfl
def t_law_steps_7 : SF := (sSeq (sExpr (eApp 3 (eTup (aCons (eC (.str "row")) (aCons (eC (.int 18)) aNil))))) t_law_steps_6)
@[simp] theorem t_law_steps_7_ap {S : Ms} : t_law_steps_7 S = (sSeq (sExpr (eApp 3 (eTup (aCons (eC (.str "row")) (aCons (eC (.int 18)) aNil))))) t_law_steps_6) S := rfl
def t_law_steps_8 : SF := (sSeq (sIf (bOr (bOf (eOp gLt (eVar 4) (eOpL gIx 0 (eC (.int 5))))) (bOf (eOp gGt (eVar 4) (eOpL gIx 0 (eC (.int 6)))))) (sSeq (sExpr (eApp 3 (eTup (aCons (eC (.str "fault")) (aCons (eC (.int 17)) (aCons (eC (.str "range")) aNil)))))) (sRet (eNew (cLst (aCons (eVar 3) (aCons (eTup (aCons (eC (.str "fault")) (aCons (eC (.int 17)) (aCons (eC (.str "range")) aNil)))) aNil)))))) sNil) t_law_steps_7)
@[simp] theorem t_law_steps_8_ap {S : Ms} : t_law_steps_8 S = (sSeq (sIf (bOr (bOf (eOp gLt (eVar 4) (eOpL gIx 0 (eC (.int 5))))) (bOf (eOp gGt (eVar 4) (eOpL gIx 0 (eC (.int 6)))))) (sSeq (sExpr (eApp 3 (eTup (aCons (eC (.str "fault")) (aCons (eC (.int 17)) (aCons (eC (.str "range")) aNil)))))) (sRet (eNew (cLst (aCons (eVar 3) (aCons (eTup (aCons (eC (.str "fault")) (aCons (eC (.int 17)) (aCons (eC (.str "range")) aNil)))) aNil)))))) sNil) t_law_steps_7) S := rfl
def t_law_steps_9 : SF := (sSeq (sAsg (eFn 3 f_law_first (aCons (eVar 3) (aCons (eVar 0) (aCons (eVar 1) aNil)))) (gNm 4)) t_law_steps_8)
@[simp] theorem t_law_steps_9_ap {S : Ms} : t_law_steps_9 S = (sSeq (sAsg (eFn 3 f_law_first (aCons (eVar 3) (aCons (eVar 0) (aCons (eVar 1) aNil)))) (gNm 4)) t_law_steps_8) S := rfl
def t_law_steps_10 : SF := (sSeq (sExpr (eApp 3 (eTup (aCons (eC (.str "row")) (aCons (eC (.int 17)) aNil))))) t_law_steps_9)
@[simp] theorem t_law_steps_10_ap {S : Ms} : t_law_steps_10 S = (sSeq (sExpr (eApp 3 (eTup (aCons (eC (.str "row")) (aCons (eC (.int 17)) aNil))))) t_law_steps_9) S := rfl
def t_law_steps_11 : SF := (sSeq (sIf (bOr (bOf (eOp gLt (eVar 2) (eOpL gIx 0 (eC (.int 5))))) (bOf (eOp gGt (eVar 2) (eOpL gIx 0 (eC (.int 6)))))) (sSeq (sExpr (eApp 3 (eTup (aCons (eC (.str "fault")) (aCons (eC (.int 16)) (aCons (eC (.str "range")) aNil)))))) (sRet (eNew (cLst (aCons (eVar 3) (aCons (eTup (aCons (eC (.str "fault")) (aCons (eC (.int 16)) (aCons (eC (.str "range")) aNil)))) aNil)))))) sNil) t_law_steps_10)
@[simp] theorem t_law_steps_11_ap {S : Ms} : t_law_steps_11 S = (sSeq (sIf (bOr (bOf (eOp gLt (eVar 2) (eOpL gIx 0 (eC (.int 5))))) (bOf (eOp gGt (eVar 2) (eOpL gIx 0 (eC (.int 6)))))) (sSeq (sExpr (eApp 3 (eTup (aCons (eC (.str "fault")) (aCons (eC (.int 16)) (aCons (eC (.str "range")) aNil)))))) (sRet (eNew (cLst (aCons (eVar 3) (aCons (eTup (aCons (eC (.str "fault")) (aCons (eC (.int 16)) (aCons (eC (.str "range")) aNil)))) aNil)))))) sNil) t_law_steps_10) S := rfl
def b_law_steps : SF := (sSeq (sCell 3 (cLst (aCons (eTup (aCons (eC (.str "row")) (aCons (eC (.int 15)) aNil))) (aCons (eTup (aCons (eC (.str "row")) (aCons (eC (.int 16)) aNil))) aNil)))) t_law_steps_11)
def f_law_steps : FF := fnM 6 b_law_steps
def b_law_told (ca : Nat → Addr) : XF := (xSeq (xTry (tb [(2, true)]) (xExpr (xFnD 3 (f_run_program ca) [.tup []] (aCons (eVar 0) (aCons (eVar 1) aNil)))) (fun _ => (sRet (eC (.str "bad"))))) (xL (sRet (eC (.str "fine")))))
def f_law_told (ca : Nat → Addr) : FF := noX (fnX 2 (b_law_told ca))
def b_law_base (ca : Nat → Addr) : XF := (xSeq (xTryAs (tb [(2, true)]) 2 (xExpr (xFnD 3 (f_run_program ca) [.tup []] (aCons (eVar 0) (aCons (eVar 1) aNil)))) (hRet (hAnd (fun e => (tb [(2, true)] e.i).map .bl) (hAnd (hNot (fun e => (tb [(2, false)] e.i).map .bl)) (fun e => (tb [(2, true)] e.i).map .bl))))) (xL (sRet (eC (.bl false)))))
def f_law_base (ca : Nat → Addr) : FF := noX (fnX 3 (b_law_base ca))
def t_law_1 (ca : Nat → Addr) : SF := (sSeq (sAsg (eOp gIx (eNew (cLst (aCons (eC (.int 20)) (aCons (eUn gNeg (eC (.int 20))) aNil)))) (eFn 2 f_law_take (aCons (eVar 1) (aCons (eC (.int 2)) aNil)))) (gNm 5)) (sAsg (eOp gIx (eNew (cLst (aCons (eC (.int 20)) (aCons (eUn gNeg (eC (.int 20))) aNil)))) (eFn 2 f_law_take (aCons (eVar 1) (aCons (eC (.int 2)) aNil)))) (gNm 6)))
def t_law_2 (ca : Nat → Addr) : SF := (sSeq (sIf (bNot (bTru (eFn 2 (f_law_same 8) (aCons (eFld (ca 5) "outcome" (eVar 8)) (aCons (eOpL gIx 9 (eC (.int 1))) aNil))))) (sRet (eC (.bl false))) sNil) (t_law_1 ca))
def t_law_3 (ca : Nat → Addr) : SF := (sSeq (sIf (bOr (bNot (bTru (eIsiC "list" (eFld (ca 5) "events" (eVar 8))))) (bNot (bTru (eFn 2 (f_law_same 8) (aCons (eCall gTuple (eFld (ca 5) "events" (eVar 8))) (aCons (eCall gTuple (eOpL gIx 9 (eC (.int 0)))) aNil)))))) (sRet (eC (.bl false))) sNil) (t_law_2 ca))
def t_law_4 (ca : Nat → Addr) : SF := (sSeq (sAsg (eFn 3 f_law_steps (aCons (eVar 2) (aCons (eVar 5) (aCons (eVar 6) aNil)))) (gNm 9)) (t_law_3 ca))
def l_law_1 (ca : Nat → Addr) : SF := (sSeq (sAsg (eFnD 3 (noX (f_run_program ca)) [.tup []] (aCons (eVar 4) (aCons (eNew (cLst (aCons (eVar 5) (aCons (eVar 6) aNil)))) aNil))) (gNm 8)) (t_law_4 ca))
def l_law_2 (ca : Nat → Addr) : SF := (sIf (bOr (bOf (eOp gNe2 (eFn 2 (f_law_told ca) (aCons (eVar 4) (aCons (eVar 12) aNil))) (eC (.str "bad")))) (bNot (bTru (eFn 2 (f_law_base ca) (aCons (eVar 4) (aCons (eVar 12) aNil)))))) (sRet (eC (.bl false))) sNil)
def t_law_5 (ca : Nat → Addr) : SF := (sSeq (sFor (iSeq (eNew (cLst (aCons (eOpL gIx 10 (eVar 11)) (aCons (eOpL gIx 10 (eOp gMod (eCall gInt3 (eOp gAdd (eOp gMul3 (eVar 11) (eC (.int 5))) (eC (.int 3)))) (eC (.int 13)))) aNil))))) (gNm 12) (l_law_2 ca)) (sRet (eAnd (eOp gEq2 (eFn 2 (f_law_told ca) (aCons (eVar 4) (aCons (eTup (aCons (eVar 5) (aCons (eVar 6) aNil))) aNil))) (eC (.str "fine"))) (eOp gEq2 (eFn 2 (f_law_told ca) (aCons (eVar 4) (aCons (eNew (cLst (aCons (eVar 5) (aCons (eVar 6) aNil)))) aNil))) (eC (.str "fine"))))))
def t_law_6 (ca : Nat → Addr) : SF := (sSeq (sAsg (eFn 2 f_law_take (aCons (eVar 1) (aCons (eC (.int 13)) aNil))) (gNm 11)) (t_law_5 ca))
def t_law_7 (ca : Nat → Addr) : SF := (sSeq (sAsg (eNew (cLst (aCons (eNew (cLst (aCons (eVar 5) aNil))) (aCons (eNew (cLst (aCons (eVar 5) (aCons (eVar 6) (aCons (eC (.int 0)) aNil))))) (aCons (eNew (cLst aNil)) (aCons (eNew (cLst (aCons (eVar 5) (aCons (eC (.int 21)) aNil)))) (aCons (eNew (cLst (aCons (eUn gNeg (eC (.int 21))) (aCons (eVar 6) aNil)))) (aCons (eTup (aCons (eC (.int 21)) (aCons (eVar 6) aNil))) (aCons (eNew (cLst (aCons (eVar 5) (aCons (eOp gPow (eC (.int 10)) (eC (.int 30))) aNil)))) (aCons (eNew (cLst (aCons (eC (.str "1")) (aCons (eVar 6) aNil)))) (aCons (eNew (cLst (aCons (eVar 5) (aCons (eC .non) aNil)))) (aCons (eNew (cLst (aCons (eNew (cLst (aCons (eVar 5) aNil))) (aCons (eVar 6) aNil)))) (aCons (eC (.str "12")) (aCons (eNew cDK) (aCons (eC .non) aNil))))))))))))))) (gNm 10)) (t_law_6 ca))
def t_law_8 (ca : Nat → Addr) : SF := (sSeq (sFor (iRg1 (eC (.int 2))) (gNm 7) (l_law_1 ca)) (t_law_7 ca))
def t_law_9 (ca : Nat → Addr) : SF := (sSeq (sAsg (eCalls gMax2 (aCons (eUn gNeg (eC (.int 20))) (aCons (eCalls gMin2 (aCons (eC (.int 20)) (aCons (eCall gInt3 (eOp gSub (eOp gAdd (eVar 3) (eFn 2 f_law_take (aCons (eVar 1) (aCons (eC (.int 13)) aNil)))) (eC (.int 2)))) aNil))) aNil))) (gNm 6)) (t_law_8 ca))
def t_law_10 (ca : Nat → Addr) : SF := (sSeq (sAsg (eOp gSub (eFn 2 f_law_take (aCons (eVar 1) (aCons (eC (.int 41)) aNil))) (eC (.int 20))) (gNm 5)) (t_law_9 ca))
def t_law_11 (ca : Nat → Addr) : SF := (sSeq (sAsg (eFn 1 (f_law_program ca) (aCons (eVar 2) aNil)) (gNm 4)) (t_law_10 ca))
def t_law_12 (ca : Nat → Addr) : SF := (sSeq (sAsg (eOpL gAdd 2 (eNew (cLst (aCons (eVar 3) (aCons (eOp gAdd (eVar 3) (eOp gIx (eNew (cLst (aCons (eC (.int 60)) (aCons (eFn 2 f_law_take (aCons (eVar 1) (aCons (eC (.int 30)) aNil))) (aCons (eC (.int 5)) aNil))))) (eFn 2 f_law_take (aCons (eVar 1) (aCons (eC (.int 3)) aNil))))) (aCons (eFn 2 f_law_take (aCons (eVar 1) (aCons (eC (.int 4)) aNil))) aNil)))))) (gNm 2)) (t_law_11 ca))
def t_law_13 (ca : Nat → Addr) : SF := (sSeq (sAsg (eOp gIx (eNew (cLst (aCons (eUn gNeg (eC (.int 30))) (aCons (eOp gAdd (eUn gNeg (eC (.int 5))) (eFn 2 f_law_take (aCons (eVar 1) (aCons (eC (.int 10)) aNil)))) (aCons (eUn gNeg (eC (.int 20))) aNil))))) (eFn 2 f_law_take (aCons (eVar 1) (aCons (eC (.int 3)) aNil)))) (gNm 3)) (t_law_12 ca))
def t_law_14 (ca : Nat → Addr) : SF := (sSeq (sExpr (eApp 2 (eFn 2 f_law_take (aCons (eVar 1) (aCons (eC (.int 20)) aNil))))) (t_law_13 ca))
def t_law_15 (ca : Nat → Addr) : SF := (sSeq (sOwn 2 (cLst (aCons (eOp gSub (eFn 2 f_law_take (aCons (eVar 1) (aCons (eC (.int 40)) aNil))) (eC (.int 15))) (aCons (eOp gSub (eFn 2 f_law_take (aCons (eVar 1) (aCons (eC (.int 7)) aNil))) (eC (.int 3))) (aCons (eOp gSub (eFn 2 f_law_take (aCons (eVar 1) (aCons (eC (.int 5)) aNil))) (eC (.int 2))) (aCons (eOp gSub (eFn 2 f_law_take (aCons (eVar 1) (aCons (eC (.int 40)) aNil))) (eC (.int 15))) aNil)))))) (t_law_14 ca))
def b_law (ca : Nat → Addr) : SF := (sSeq (sCell 1 (cLst (aCons (eFn 2 f_law_draws (aCons (eVar 0) (aCons (eC (.int 60)) aNil))) (aCons (eC (.int 0)) aNil)))) (t_law_15 ca))
def f_law (ca : Nat → Addr) : FF := fnM 13 (b_law ca)
end

end Lk13



namespace Lk13
open PySem L2 M
/-! expressions and conditions of programs, as data; what they give -/
def I (ns : List Int) : List M.D := ns.map M.D.int
inductive Vl where
  | int (i : Int) | lst (l : List Int)
abbrev Vs := Str → Option Vl
inductive Ex where
  | num (i : Int) | var (x : Str) (c : Int) | item (x : Str) (e : Ex) (c : Int)
def encE : Ex → M.D
  | .num i => .tup [.str "num", .int i]
  | .var x c => .tup [.str "var", .str x, .int c]
  | .item x e c => .tup [.str "item", .str x, encE e, .int c]
def dpE : Ex → Nat
  | .item _ e _ => dpE e + 1
  | _ => 1
/-- outer none: the program is not good; inner none: an index is outside -/
def evE (V : Vs) : Ex → Option (Option Int)
  | .num i => some (some i)
  | .var x c => match V x with
    | some (.int i) => some (some (i + c))
    | _ => none
  | .item x e c => match evE V e, V x with
    | some (some i), some (.lst l) => if 0 ≤ i ∧ i < l.length then (l[i.toNat]?).map fun v => some (v + c) else some none
    | _, _ => none
/-- the dict of a body's variables -/
def VR (m : List Cell) (vd : List (Key × M.D)) (V : Vs) : Prop := ∀ x, match V x with
  | none => lkK vd (.inr x) = none
  | some (.int i) => lkK vd (.inr x) = some (.int i)
  | some (.lst l) => l.length ≤ 1000 ∧ ∃ k, lkK vd (.inr x) = some (.ref k) ∧ m[k]? = some (.lst (I l))
def oZ : Option Int → M.D
  | none => .non
  | some i => .int i
theorem n_vn : ¬ ("var" : Str) = "num" := by decide +kernel
theorem n_in : ¬ ("item" : Str) = "num" := by decide +kernel
theorem n_iv : ¬ ("item" : Str) = "var" := by decide +kernel
theorem value_ok (V : Vs) (m : List Cell) (kv : Nat) (vd : List (Key × M.D)) (hv : m[kv]? = some (.dct vd)) (hV : VR m vd V) : ∀ (e : Ex) (n : Nat) (r : Option Int), dpE e ≤ n → evE V e = some r → f_value_of n [encE e, .ref kv] m = some (oZ r, m) := by
  intro e
  induction e with
  | num i =>
    intro n r hn he
    cases he
    cases n with
    | zero => simp [dpE] at hn
    | succ n =>
      unfold f_value_of b_value_of
      generalize t_value_of_4 (f_value_of n) = tl
      rw [show encE (.num i) = .tup [.str "num", .int i] from rfl]
      simp [fnM_ap, oZ, atI, ixN]
  | var x c =>
    intro n r hn he
    have hx := hV x
    simp only [evE] at he
    cases hvx : V x with
    | none => rw [hvx] at he; cases he
    | some v =>
      rw [hvx] at he hx
      cases v with
      | lst l => cases he
      | int i =>
        cases he
        simp only at hx
        cases n with
        | zero => simp [dpE] at hn
        | succ n =>
          unfold f_value_of b_value_of
          rw [show encE (.var x c) = .tup [.str "var", .str x, .int c] from rfl]
          simp [fnM_ap, oZ, atI, ixN, n_vn, hv, gIxK, keyD, hx]
  | item x e c ih =>
    intro n r hn he
    have hx := hV x
    simp only [evE] at he
    cases n with
    | zero => simp [dpE] at hn
    | succ n =>
      simp only [dpE] at hn
      cases he2 : evE V e with
      | none => rw [he2] at he; cases he
      | some q =>
        rw [he2] at he
        cases q with
        | none => cases he
        | some i =>
          cases hvx : V x with
          | none => rw [hvx] at he; cases he
          | some v =>
            rw [hvx] at he hx
            cases v with
            | int j => cases he
            | lst l =>
              obtain ⟨hl, k, h1, h2⟩ := hx
              have hr := ih n (some i) (by omega) he2
              have hr' : f_value_of n [encE e, .ref kv] m = some (.int i, m) := hr
              clear hr ih
              simp only at he
              unfold f_value_of b_value_of
              rw [show encE (.item x e c) = .tup [.str "item", .str x, encE e, .int c] from rfl]
              generalize f_value_of n = rec at *
              have hve : ∀ S0 : Ms, vw S0 (encE e) = encE e := fun S0 => by cases e <;> rfl
              generalize encE e = E at *
              have hlen : (I l).length = l.length := by simp [I]
              by_cases hin : 0 ≤ i ∧ i < l.length
              · rw [if_pos hin] at he
                have hlt : i.toNat < l.length := by omega
                rw [List.getElem?_eq_getElem hlt] at he
                cases he
                have hat : (I l)[i.toNat]? = some (.int l[i.toNat]) := by simp [I, hlt]
                generalize l[i.toNat] = v at *
                have hat2 : ∀ hh : i.toNat < (I l).length, (I l)[i.toNat]'hh = .int v := fun hh => by
                  have := hat
                  rw [List.getElem?_eq_getElem hh] at this
                  exact Option.some.inj this
                simp [fnM_ap, oZ, eChain, atI, ixN, n_in, n_iv, hv, gIxK, keyD, h1, hr', h2, hve, hlen, hin.1, hin.2, hat, hat2]
              · rw [if_neg hin] at he
                cases he
                by_cases h0 : 0 ≤ i
                · have h3 : ¬ i < (l.length : Int) := fun z => hin ⟨h0, z⟩
                  simp [fnM_ap, oZ, eChain, atI, ixN, n_in, n_iv, hv, gIxK, keyD, h1, hr', h2, hve, hlen, h0, h3]
                · simp [fnM_ap, oZ, eChain, atI, ixN, n_in, n_iv, hv, gIxK, keyD, h1, hr', h2, hve, hlen, h0]
/-! conditions -/
inductive Cn where
  | cmp (s : Str) (a b : Ex) | not (c : Cn) | all (cs : List Cn) | any (cs : List Cn)
mutual
def encC : Cn → M.D
  | .cmp s a b => .tup [.str "cmp", .str s, encE a, encE b]
  | .not c => .tup [.str "not", encC c]
  | .all cs => .tup [.str "and", .tup (encCs cs)]
  | .any cs => .tup [.str "or", .tup (encCs cs)]
def encCs : List Cn → List M.D
  | [] => []
  | c :: cs => encC c :: encCs cs
end
def sgn (s : Str) (x y : Int) : Bool := if s = "<" then decide (x < y) else if s = "<=" then decide (x ≤ y) else if s = ">" then decide (x > y) else if s = ">=" then decide (x ≥ y) else if s = "==" then decide (x = y) else decide (x ≠ y)
theorem sn10 : ¬ (("<=" : Str) = "<") := by decide +kernel
theorem sn20 : ¬ ((">" : Str) = "<") := by decide +kernel
theorem sn21 : ¬ ((">" : Str) = "<=") := by decide +kernel
theorem sn30 : ¬ ((">=" : Str) = "<") := by decide +kernel
theorem sn31 : ¬ ((">=" : Str) = "<=") := by decide +kernel
theorem sn32 : ¬ ((">=" : Str) = ">") := by decide +kernel
theorem sn40 : ¬ (("==" : Str) = "<") := by decide +kernel
theorem sn41 : ¬ (("==" : Str) = "<=") := by decide +kernel
theorem sn42 : ¬ (("==" : Str) = ">") := by decide +kernel
theorem sn43 : ¬ (("==" : Str) = ">=") := by decide +kernel
theorem compares_ok (s : Str) (x y : Int) (m : List Cell) : f_compares [.str s, .int x, .int y] m = some (.bl (sgn s x y), m) := by
  unfold f_compares b_compares t_compares_4 t_compares_3 t_compares_2 t_compares_1 sgn
  by_cases h1 : s = "<"
  · simp [fnM_ap, h1]
  by_cases h2 : s = "<="
  · simp [fnM_ap, h2, sn10]
  by_cases h3 : s = ">"
  · simp [fnM_ap, h3, sn20, sn21]
  by_cases h4 : s = ">="
  · simp [fnM_ap, h4, sn30, sn31, sn32]
  by_cases h5 : s = "=="
  · simp [fnM_ap, h5, sn40, sn41, sn42, sn43]
  · simp [fnM_ap, h1, h2, h3, h4, h5]
mutual
def evC (V : Vs) : Cn → Option (Option Bool)
  | .cmp s a b => if dpE a ≤ 8 ∧ dpE b ≤ 8 then (match evE V a, evE V b with
    | some (some x), some (some y) => some (some (sgn s x y))
    | some _, some _ => some none
    | _, _ => none) else none
  | .not c => match evC V c with
    | some (some b) => some (some (!b))
    | o => o
  | .all cs => evL V true cs
  | .any cs => evL V false cs
def evL (V : Vs) (g : Bool) : List Cn → Option (Option Bool)
  | [] => some (some g)
  | c :: cs => match evC V c with
    | some (some b) => if b = g then evL V g cs else some (some b)
    | o => o
end
mutual
def dpC : Cn → Nat
  | .cmp _ _ _ => 1
  | .not c => dpC c + 1
  | .all cs => dpL cs + 1
  | .any cs => dpL cs + 1
def dpL : List Cn → Nat
  | [] => 0
  | c :: cs => max (dpC c) (dpL cs)
end
def oB : Option Bool → M.D
  | none => .non
  | some b => .bl b
theorem n_nc : ¬ ("not" : Str) = "cmp" := by decide +kernel
theorem n_ac : ¬ ("and" : Str) = "cmp" := by decide +kernel
theorem n_an : ¬ ("and" : Str) = "not" := by decide +kernel
theorem n_oc : ¬ ("or" : Str) = "cmp" := by decide +kernel
theorem n_on : ¬ ("or" : Str) = "not" := by decide +kernel
theorem n_oa : ¬ ("or" : Str) = "and" := by decide +kernel
theorem vw_oZ (S0 : Ms) (o : Option Int) : vw S0 (oZ o) = oZ o := by cases o <;> rfl
theorem vw_oB (S0 : Ms) (o : Option Bool) : vw S0 (oB o) = oB o := by cases o <;> rfl
theorem vw_E (S0 : Ms) (e : Ex) : vw S0 (encE e) = encE e := by cases e <;> rfl
theorem vw_C (S0 : Ms) (c : Cn) : vw S0 (encC c) = encC c := by cases c <;> rfl
theorem tloop (V : Vs) (m : List Cell) (kv : Nat) (rec : FF) (g : Bool) (x0 x2 x3 : M.Slot) : ∀ (cs : List Cn) (r : Option Bool) (x4 x6 : M.Slot), (∀ c ∈ cs, ∀ r, evC V c = some r → rec [encC c, .ref kv] m = some (oB r, m)) → evL V g cs = some r → ∃ y4 y6, M.forM (gNm 6) (l_truth_of_1 rec) (encCs cs) ⟨[x0, .val (.ref kv), x2, x3, x4, .val (.bl g), x6], m⟩ = some (if r = some g then .nx else .rt (oB r), ⟨[x0, .val (.ref kv), x2, x3, y4, .val (.bl g), y6], m⟩) := by
  intro cs
  induction cs with
  | nil =>
    intro r x4 x6 _ h
    cases h
    exact ⟨x4, x6, by rw [if_pos rfl]; rfl⟩
  | cons c cs ih =>
    intro r x4 x6 hc h
    simp only [evL] at h
    cases e : evC V c with
    | none => rw [e] at h; cases h
    | some o =>
      have hr := hc c (by simp) o e
      rw [e] at h
      rw [show encCs (c :: cs) = encC c :: encCs cs from rfl, forM_cons]
      have hvc := fun S0 => vw_C S0 c
      cases o with
      | none =>
        cases h
        refine ⟨.val .non, .val (encC c), ?_⟩
        rw [if_neg (by simp)]
        simp only [oB] at hr ⊢
        generalize encC c = E at *
        generalize M.forM (gNm 6) (l_truth_of_1 rec) (encCs cs) = K at *
        unfold l_truth_of_1
        simp [hr, hvc]
      | some b =>
        simp only at h
        by_cases hb : b = g
        · rw [if_pos hb] at h
          obtain ⟨y4, y6, i1⟩ := ih r (.val (.bl b)) (.val (encC c)) (fun d hd => hc d (List.mem_cons_of_mem _ hd)) h
          refine ⟨y4, y6, ?_⟩
          rw [← i1]
          simp only [oB] at hr
          generalize encC c = E at *
          generalize M.forM (gNm 6) (l_truth_of_1 rec) (encCs cs) = K at *
          subst hb
          unfold l_truth_of_1
          simp [hr, hvc]
        · rw [if_neg hb] at h
          cases h
          refine ⟨.val (.bl b), .val (encC c), ?_⟩
          rw [if_neg (by simpa using hb)]
          simp only [oB] at hr ⊢
          generalize encC c = E at *
          generalize M.forM (gNm 6) (l_truth_of_1 rec) (encCs cs) = K at *
          unfold l_truth_of_1
          simp [hr, hvc, hb]
end Lk13



namespace Lk13
open PySem L2 M
/-! truth -/
theorem dpL_le {c : Cn} : ∀ {cs : List Cn}, c ∈ cs → dpC c ≤ dpL cs
  | [], h => by simp at h
  | d :: cs, h => by
    simp only [dpL]
    rcases List.mem_cons.mp h with rfl | h
    · omega
    · have := dpL_le h; omega
theorem truth_ok (V : Vs) (m : List Cell) (kv : Nat) (vd : List (Key × M.D)) (hv : m[kv]? = some (.dct vd)) (hV : VR m vd V) : ∀ (n : Nat) (c : Cn) (r : Option Bool), dpC c ≤ n → evC V c = some r → f_truth_of n [encC c, .ref kv] m = some (oB r, m) := by
  intro n
  induction n with
  | zero => intro c r h; cases c <;> simp [dpC] at h
  | succ n ih =>
    intro c r hd he
    cases c with
    | cmp s a b =>
      simp only [evC] at he
      split at he
      · rename_i hdd
        rw [show encC (.cmp s a b) = .tup [.str "cmp", .str s, encE a, encE b] from rfl]
        cases ea : evE V a with
        | none => rw [ea] at he; cases he
        | some x =>
          cases eb : evE V b with
          | none => rw [ea, eb] at he; cases x <;> cases he
          | some y =>
            rw [ea, eb] at he
            have h1 := value_ok V m kv vd hv hV a 8 x hdd.1 ea
            have h2 := value_ok V m kv vd hv hV b 8 y hdd.2 eb
            have v1 := fun S0 => vw_E S0 a
            have v2 := fun S0 => vw_E S0 b
            generalize encE a = A at *
            generalize encE b = B at *
            unfold f_truth_of b_truth_of t_truth_of_2 t_truth_of_1
            generalize t_truth_of_5 (f_truth_of n) = tl
            generalize f_value_of 8 = fv at *
            have hcm := fun i j => compares_ok s i j m
            generalize f_compares = fc at *
            cases x with
            | none =>
              have : r = none := by cases y <;> (simp only at he; exact (Option.some.inj he).symm)
              subst this
              simp only [oZ] at h1
              have v3 := fun S0 => vw_oZ S0 y
              generalize oZ y = Y at *
              revert tl; refine opq ?_; intro tl
              simp [fnM_ap, atI, ixN, h1, h2, v1, v2, v3, oB]
            | some i =>
              cases y with
              | none =>
                cases he
                simp only [oZ] at h1 h2
                revert tl; refine opq ?_; intro tl
                simp [fnM_ap, atI, ixN, h1, h2, v1, v2, oB]
              | some j =>
                cases he
                simp only [oZ] at h1 h2
                have hc := hcm i j
                generalize sgn s i j = bb at *
                revert tl; refine opq ?_; intro tl
                simp [fnM_ap, atI, ixN, h1, h2, v1, v2, oB, hc]
      · cases he
    | not c =>
      simp only [dpC] at hd
      simp only [evC] at he
      rw [show encC (.not c) = .tup [.str "not", encC c] from rfl]
      cases ec : evC V c with
      | none => rw [ec] at he; cases he
      | some o =>
        rw [ec] at he
        have h1 := ih c o (by omega) ec
        have v1 := fun S0 => vw_C S0 c
        generalize encC c = C at *
        unfold f_truth_of b_truth_of t_truth_of_5
        generalize t_truth_of_4 (f_truth_of n) = tl
        generalize f_truth_of n = rec at *
        cases o with
        | none =>
          cases he
          simp only [oB] at h1
          revert tl; refine opq ?_; intro tl
          simp [fnM_ap, atI, ixN, h1, v1, oB, n_nc]
        | some b =>
          cases he
          simp only [oB] at h1
          revert tl; refine opq ?_; intro tl
          simp [fnM_ap, atI, ixN, h1, v1, oB, n_nc]
    | all cs =>
      simp only [dpC] at hd
      simp only [evC] at he
      rw [show encC (.all cs) = .tup [.str "and", .tup (encCs cs)] from rfl]
      obtain ⟨y4, y6, hl⟩ := tloop V m kv (f_truth_of n) true (.val (.tup [.str "and", .tup (encCs cs)])) .emp .emp cs r .emp .emp (fun c hc r hr => ih c r (by have := dpL_le hc; omega) hr) he
      have hv2 := fun S0 => vw_oB S0 r
      generalize encCs cs = CS at *
      unfold f_truth_of b_truth_of t_truth_of_5 t_truth_of_4 t_truth_of_3
      generalize l_truth_of_1 (f_truth_of n) = ll at *
      by_cases hr : r = some true
      · subst hr
        rw [if_pos rfl] at hl
        simp [fnM_ap, atI, ixN, n_ac, n_an, hl, oB]
      · rw [if_neg hr] at hl
        generalize oB r = R at *
        simp [fnM_ap, atI, ixN, n_ac, n_an, hl]
    | any cs =>
      simp only [dpC] at hd
      simp only [evC] at he
      rw [show encC (.any cs) = .tup [.str "or", .tup (encCs cs)] from rfl]
      obtain ⟨y4, y6, hl⟩ := tloop V m kv (f_truth_of n) false (.val (.tup [.str "or", .tup (encCs cs)])) .emp .emp cs r .emp .emp (fun c hc r hr => ih c r (by have := dpL_le hc; omega) hr) he
      have hv2 := fun S0 => vw_oB S0 r
      generalize encCs cs = CS at *
      unfold f_truth_of b_truth_of t_truth_of_5 t_truth_of_4 t_truth_of_3
      generalize l_truth_of_1 (f_truth_of n) = ll at *
      by_cases hr : r = some false
      · subst hr
        rw [if_pos rfl] at hl
        simp [fnM_ap, atI, ixN, n_oc, n_on, n_oa, hl, oB]
      · rw [if_neg hr] at hl
        generalize oB r = R at *
        simp [fnM_ap, atI, ixN, n_oc, n_on, n_oa, hl]
end Lk13



namespace Lk13
open PySem L2 M
/-! events, atoms, the watch -/
inductive Ev where
  | row (r : Int) | yes (r : Int) | no (r : Int) | turn (r n : Int) | fault (r : Int) (k : Str)
def encV : Ev → M.D
  | .row r => .tup [.str "row", .int r]
  | .yes r => .tup [.str "yes", .int r]
  | .no r => .tup [.str "no", .int r]
  | .turn r n => .tup [.str "turn", .int r, .int n]
  | .fault r k => .tup [.str "fault", .int r, .str k]
inductive At where
  | ev (e : Ev) | whn (r : Int) (s : Str) (a b : Ex)
def encA : At → M.D
  | .ev e => encV e
  | .whn r s a b => .tup [.str "when", .int r, .str s, encE a, encE b]
def GoodV : Ev → Prop
  | .fault _ k => PyData.strOk k = true
  | _ => True
def GoodX : Ex → Prop
  | .num _ => True
  | .var x _ => PyData.strOk x = true
  | .item x e _ => PyData.strOk x = true ∧ GoodX e ∧ dpE e ≤ 4
def GoodA : At → Prop
  | .ev e => GoodV e
  | .whn _ s a b => PyData.strOk s = true ∧ GoodX a ∧ GoodX b
theorem plS {n : Nat} {z : Str} (h : PyData.strOk z = true) : Pl n (.str z) := pl_str h
theorem pl_V {e : Ev} (h : GoodV e) {n : Nat} : Pl (n + 1) (encV e) := by
  cases e with
  | fault r k => exact pl_tup (pls_cons (plS (by decide +kernel)) (pls_cons pl_int (pls_cons (plS h) pls_nil)))
  | turn r k => exact pl_tup (pls_cons (plS (by decide +kernel)) (pls_cons pl_int (pls_cons pl_int pls_nil)))
  | row r => exact pl_tup (pls_cons (plS (by decide +kernel)) (pls_cons pl_int pls_nil))
  | yes r => exact pl_tup (pls_cons (plS (by decide +kernel)) (pls_cons pl_int pls_nil))
  | no r => exact pl_tup (pls_cons (plS (by decide +kernel)) (pls_cons pl_int pls_nil))
theorem encV_inj {a b : Ev} : encV a = encV b ↔ a = b := by
  constructor
  · intro h
    have d1 : ¬ ("row" : Str) = "yes" := by decide +kernel
    have d2 : ¬ ("row" : Str) = "no" := by decide +kernel
    have d3 : ¬ ("yes" : Str) = "no" := by decide +kernel
    have d4 : ¬ ("turn" : Str) = "fault" := by decide +kernel
    have d5 : ¬ ("yes" : Str) = "row" := fun z => d1 z.symm
    have d6 : ¬ ("no" : Str) = "row" := fun z => d2 z.symm
    have d7 : ¬ ("no" : Str) = "yes" := fun z => d3 z.symm
    have d8 : ¬ ("fault" : Str) = "turn" := fun z => d4 z.symm
    cases a <;> cases b <;> simp [encV, d1, d2, d3, d4, d5, d6, d7, d8] at h ⊢ <;> exact h
  · intro h; rw [h]
theorem tagV (e : Ev) : ∃ t ds, encV e = .tup (.str t :: ds) ∧ ¬ t = "when" ∧ (.str t :: ds).length ≤ 3 := by
  cases e with
  | row r => exact ⟨_, _, rfl, by decide +kernel, by simp⟩
  | yes r => exact ⟨_, _, rfl, by decide +kernel, by simp⟩
  | no r => exact ⟨_, _, rfl, by decide +kernel, by simp⟩
  | turn r n => exact ⟨_, _, rfl, by decide +kernel, by simp⟩
  | fault r k => exact ⟨_, _, rfl, by decide +kernel, by simp⟩
/-- which comparison the next atom asks at an event -/
def wants (a : Option At) (e : Ev) : Option (Str × Ex × Ex) := match a, e with
  | some (.whn r s x y), .row q => if q = r then some (s, x, y) else none
  | _, _ => none
open Classical in
noncomputable def meetsA (a : Option At) (e : Ev) (t : Bool) : Bool := if (wants a e).isSome then t else match a with
  | some (.ev f) => decide (e = f)
  | _ => false
def encN : Option At → M.D
  | none => .non
  | some a => encA a
def encW : Option (Str × Ex × Ex) → M.D
  | none => .non
  | some (s, x, y) => .tup [.str s, encE x, encE y]
structure WatchAt (ca : Nat → Addr) (m : List Cell) (kw : Nat) (pl : List At) (p : Nat) : Prop where
  c : m[kw]? = some (.obj (ca 4) [("place", .tup (pl.map encA)), ("progress", .int (p : Int))])
  g : ∀ a ∈ pl, GoodA a
  n : pl.length ≤ 1000
theorem n_pp : ¬ ("place" : Str) = "progress" := by decide +kernel
theorem next_ok {ca : Nat → Addr} {m : List Cell} {kw : Nat} {pl : List At} {p : Nat} (h : WatchAt ca m kw pl p) : f_Watch_next_atom ca [.ref kw] m = some (encN pl[p]?, m) := by
  have hc := h.c
  have hl : (pl.map encA).length = pl.length := by simp
  unfold f_Watch_next_atom b_Watch_next_atom
  by_cases hp : p < pl.length
  · have hat : atI (pl.map encA) (p : Int) = some (encA pl[p]) := by
      rw [atI_pos (Int.natCast_nonneg _) (by rw [hl]; omega)]
      simp [hp]
    rw [List.getElem?_eq_getElem hp]
    show _ = some (encA pl[p], m)
    generalize encA pl[p] = A at *
    generalize pl.map encA = L at *
    have hlt : (p : Int) < (pl.length : Int) := by omega
    generalize (p : Int) = P at *
    simp [fnM_ap, hc, n_pp, hl, hlt, hat]
  · rw [List.getElem?_eq_none (by omega)]
    show _ = some (M.D.non, m)
    generalize pl.map encA = L at *
    have hlt : ¬ (p : Int) < (pl.length : Int) := by omega
    generalize (p : Int) = P at *
    simp [fnM_ap, hc, n_pp, hl, hlt]
theorem pl_X : ∀ {e : Ex}, GoodX e → Pl (dpE e + 1) (encE e)
  | .num i, _ => pl_tup (pls_cons (plS (by decide +kernel)) (pls_cons pl_int pls_nil))
  | .var x c, h => pl_tup (pls_cons (plS (by decide +kernel)) (pls_cons (plS h) (pls_cons pl_int pls_nil)))
  | .item x e c, h => by
    have := pl_X h.2.1
    exact pl_tup (pls_cons (plS (by decide +kernel)) (pls_cons (plS h.1) (pls_cons this (pls_cons pl_int pls_nil))))
theorem plV {e : Ev} (h : GoodV e) : PL (encV e) := (pl_V h (n := 0)).pl
theorem wanted_ok {ca : Nat → Addr} {m : List Cell} {kw : Nat} {pl : List At} {p : Nat} (h : WatchAt ca m kw pl p) {e : Ev} (he : GoodV e) : f_Watch_wanted ca [.ref kw, encV e] m = some (encW (wants pl[p]? e), m) := by
  have hn := next_ok h
  have hc := h.c
  have hve : ∀ S0 : Ms, vw S0 (encV e) = encV e := fun S0 => by cases e <;> rfl
  have hob : ∃ fs, m[kw]? = some (.obj (ca 4) fs) ∧ lkD "next_atom" fs = none := ⟨_, hc, by simp [show ¬ ("place" : Str) = "next_atom" by decide +kernel, show ¬ ("progress" : Str) = "next_atom" by decide +kernel]⟩
  obtain ⟨fs, hc2, hlk⟩ := hob
  unfold f_Watch_wanted b_Watch_wanted
  generalize f_Watch_next_atom ca = fn at *
  cases ha : pl[p]? with
  | none =>
    rw [ha] at hn
    simp only [encN] at hn
    show _ = some (M.D.non, m)
    simp [fnM_ap, hc2, hlk, hn]
  | some a =>
    rw [ha] at hn
    have hga := h.g a (List.mem_of_getElem? ha)
    cases a with
    | ev f =>
      obtain ⟨t, ds, e1, e2, e3⟩ := tagV f
      have hn' : fn [.ref kw] m = some (.tup (.str t :: ds), m) := by rw [hn]; show some (encV f, m) = _; rw [e1]
      show _ = some (M.D.non, m)
      have hat : atI (M.D.str t :: ds) 0 = some (.str t) := (atI_pos (by omega) (by simp)).trans rfl
      generalize M.D.str t :: ds = TT at *
      simp [fnM_ap, hc2, hlk, hn', hat, e2]
    | whn r s x y =>
      have hn' : fn [.ref kw] m = some (.tup [.str "when", .int r, .str s, encE x, encE y], m) := hn
      have hvx := fun S0 => vw_E S0 x
      have hvy := fun S0 => vw_E S0 y
      have hpl := gNe2_pl (plV he) (plV (e := .row r) trivial)
      by_cases q : e = .row r
      · have hne : gNe2 (encV e) (.tup [.str "row", .int r]) = some (.bl false) := by
          rw [q] at hpl ⊢
          show gNe2 (encV (.row r)) (encV (.row r)) = _
          simpa using hpl
        have hw : wants (some (.whn r s x y)) e = some (s, x, y) := by rw [q]; simp [wants]
        rw [hw]
        show _ = some (M.D.tup [.str s, encE x, encE y], m)
        generalize encV e = E at *
        generalize encE x = EX at *
        generalize encE y = EY at *
        simp [fnM_ap, hc2, hlk, hn', atI, ixN, hne, hve, hvx, hvy]
      · have hne : gNe2 (encV e) (.tup [.str "row", .int r]) = some (.bl true) := by
          have h2 : ¬ encV e = encV (.row r) := fun z => q (encV_inj.mp z)
          rw [show (M.D.tup [.str "row", .int r]) = encV (.row r) from rfl]
          simpa [h2] using hpl
        have hw : wants (some (.whn r s x y)) e = none := by
          cases e with
          | row z =>
            have : ¬ z = r := fun w => q (by rw [w])
            simp [wants, this]
          | _ => rfl
        rw [hw]
        show _ = some (M.D.non, m)
        generalize encV e = E at *
        generalize encE x = EX at *
        generalize encE y = EY at *
        simp [fnM_ap, hc2, hlk, hn', atI, ixN, hne, hve, hvx, hvy]
theorem fld_meets : ¬ ("place" : Str) = "meets" ∧ ¬ ("progress" : Str) = "meets" ∧ ¬ ("place" : Str) = "wanted" ∧ ¬ ("progress" : Str) = "wanted" ∧ ¬ ("place" : Str) = "next_atom" ∧ ¬ ("progress" : Str) = "next_atom" ∧ ¬ ("place" : Str) = "see" ∧ ¬ ("progress" : Str) = "see" := by decide +kernel
theorem pl_A {a : At} (h : GoodA a) : PL (encA a) := by
  cases a with
  | ev e => exact plV h
  | whn r s x y =>
    obtain ⟨h1, h2, h3⟩ := h
    have d : ∀ {e : Ex}, GoodX e → dpE e ≤ 8 := fun {e} g => by
      cases e with
      | num i => simp [dpE]
      | var x c => simp [dpE]
      | item x e c => have := g.2.2; simp only [dpE]; omega
    have up : ∀ {e : Ex}, GoodX e → Pl 9 (encE e) := fun {e} g => by
      have h := pl_X g
      exact ⟨h.1, by have := h.2; have := d g; omega⟩
    exact (pl_tup (n := 9) (pls_cons (plS (by decide +kernel)) (pls_cons pl_int (pls_cons (plS h1) (pls_cons (up h2) (pls_cons (up h3) pls_nil)))))).pl
theorem vw_N (S0 : Ms) (o : Option At) : vw S0 (encN o) = encN o := by
  cases o with
  | none => rfl
  | some a => cases a with
    | ev f => cases f <;> rfl
    | whn r s x y => rfl
open Classical in
theorem meets_ok {ca : Nat → Addr} {m : List Cell} {kw : Nat} {pl : List At} {p : Nat} (h : WatchAt ca m kw pl p) {e : Ev} (he : GoodV e) (t : Bool) : f_Watch_meets ca [.ref kw, encV e, .bl t] m = some (.bl (meetsA pl[p]? e t), m) := by
  have hn := next_ok h
  have hw := wanted_ok h he
  have hve : ∀ S0 : Ms, vw S0 (encV e) = encV e := fun S0 => by cases e <;> rfl
  obtain ⟨n1, n2, n3, n4, n5, n6, n7, n8⟩ := fld_meets
  have hc := h.c
  have hob : ∃ fs, m[kw]? = some (.obj (ca 4) fs) ∧ lkD "next_atom" fs = none ∧ lkD "wanted" fs = none := ⟨_, hc, by simp [n5, n6], by simp [n3, n4]⟩
  obtain ⟨fs, hc2, hlk, hlk2⟩ := hob
  unfold f_Watch_meets b_Watch_meets
  generalize f_Watch_next_atom ca = fn at *
  generalize f_Watch_wanted ca = fw at *
  cases hwa : wants pl[p]? e with
  | some q =>
    obtain ⟨s, x, y⟩ := q
    rw [hwa] at hw
    have : meetsA pl[p]? e t = t := by unfold meetsA; rw [hwa]; rfl
    rw [this]
    simp only [encW] at hw
    generalize encV e = E at *
    simp [fnM_ap, hc2, hlk2, hw]
  | none =>
    rw [hwa] at hw
    simp only [encW] at hw
    have hm : ∃ b, gEq2 (encV e) (encN pl[p]?) = some (.bl b) ∧ meetsA pl[p]? e t = b := by
      unfold meetsA
      rw [hwa]
      cases ha : pl[p]? with
      | none =>
        have := gEq2_pl (plV he) (e := .non) (pl_non (n := 0)).pl
        have hne : ¬ encV e = .non := by cases e <;> simp [encV]
        exact ⟨false, by simpa [hne, encN] using this, rfl⟩
      | some a =>
        have hga := h.g a (List.mem_of_getElem? ha)
        have := gEq2_pl (plV he) (pl_A hga)
        cases a with
        | ev f =>
          by_cases q : e = f
          · subst q
            have h3 : gEq2 (encV e) (encV e) = some (.bl (decide (encV e = encV e))) := this
            refine ⟨true, ?_, by simp⟩
            show gEq2 (encV e) (encV e) = _
            rw [h3]; simp
          · refine ⟨false, ?_, by simp [q]⟩
            have h2 : ¬ encV e = encA (.ev f) := fun z => q (encV_inj.mp z)
            simpa [h2, q, encN] using this
        | whn r s x y =>
          refine ⟨false, ?_, rfl⟩
          have h2 : ¬ encV e = encA (.whn r s x y) := by
            obtain ⟨tt, ds, e1, e2, e3⟩ := tagV e
            rw [e1]
            intro z
            simp only [encA, M.D.tup.injEq, List.cons.injEq, M.D.str.injEq] at z
            exact e2 z.1
          simpa [h2, encN] using this
    obtain ⟨b, h1, h2⟩ := hm
    rw [h2]
    have hvn := fun S0 => vw_N S0 pl[p]?
    generalize encN pl[p]? = NN at *
    generalize encV e = E at *
    simp [fnM_ap, hc2, hlk, hlk2, hw, hve, hn, hvn, h1]
end Lk13



namespace Lk13
open PySem L2 M
/-! a run's object: events happen -/
theorem see_ok {ca : Nat → Addr} {m : List Cell} {kw : Nat} {pl : List At} {p : Nat} (h : WatchAt ca m kw pl p) {e : Ev} (he : GoodV e) (t : Bool) : ∃ m', f_Watch_see ca [.ref kw, encV e, .bl t] m = some (.bl (meetsA pl[p]? e t && decide (p + 1 = pl.length)), m') ∧ WatchAt ca m' kw pl (if meetsA pl[p]? e t = true then p + 1 else p) ∧ m' = m.set kw (.obj (ca 4) [("place", .tup (pl.map encA)), ("progress", .int ((if meetsA pl[p]? e t = true then p + 1 else p : Nat) : Int))]) := by
  have hm := meets_ok h he t
  have hc := h.c
  have hve : ∀ S0 : Ms, vw S0 (encV e) = encV e := fun S0 => by cases e <;> rfl
  obtain ⟨n1, n2, n3, n4, n5, n6, n7, n8⟩ := fld_meets
  have hkw : kw < m.length := (List.getElem?_eq_some_iff.mp hc).1
  have hlk : ∃ fs, m[kw]? = some (.obj (ca 4) fs) ∧ lkD "meets" fs = none := ⟨_, hc, by simp [n1, n2]⟩
  obtain ⟨fs, hc2, hlk⟩ := hlk
  have hl : (pl.map encA).length = pl.length := by simp
  unfold f_Watch_see b_Watch_see
  generalize f_Watch_meets ca = fm at *
  cases hb : meetsA pl[p]? e t with
  | false =>
    rw [hb] at hm
    have hset : m.set kw (.obj (ca 4) [("place", .tup (pl.map encA)), ("progress", .int ((if false = true then p + 1 else p : Nat) : Int))]) = m := by
      rw [if_neg (by simp)]
      apply List.ext_getElem?
      intro i
      by_cases q : kw = i
      · subst q; rw [List.getElem?_set_self hkw, hc]
      · rw [List.getElem?_set_ne q]
    refine ⟨m, ?_, by rw [if_neg (by simp)]; exact h, hset.symm⟩
    generalize encV e = E at *
    simp [fnM_ap, hc2, hlk, hm, hve]
  | true =>
    rw [hb] at hm
    refine ⟨m.set kw (.obj (ca 4) [("place", .tup (pl.map encA)), ("progress", .int ((p + 1 : Nat) : Int))]), ?_, ⟨by rw [if_pos rfl, List.getElem?_set_self hkw], h.g, h.n⟩, by rw [if_pos rfl]⟩
    have hg : ∀ c : Cell, (m.set kw c)[kw]? = some c := fun c => List.getElem?_set_self hkw
    have hce : ((p : Int) + 1 = (pl.length : Int)) ↔ (p + 1 = pl.length) := by omega
    rw [show ((p + 1 : Nat) : Int) = (p : Int) + 1 by omega]
    have hdec : decide ((p : Int) + 1 = (pl.length : Int)) = decide (p + 1 = pl.length) := by simp [hce]
    rw [← hdec]
    clear hdec hce
    generalize encV e = E at *
    have hm2 : fm [.ref kw, E, .bl t] m = some (.bl true, m) := hm
    have hgl : gLen (.tup (pl.map encA)) = some (.int (pl.length : Int)) := by simp
    generalize (p : Int) = PP at *
    generalize (pl.length : Int) = PL' at *
    generalize pl.map encA = L at *
    simp [-gLen_tup, fnM_ap, hc, n1, n2, hm2, hve, n_pp, hg, hgl]
structure Lg where
  evs : List Ev
  met : Option Nat
  p : Nat
def oM : Option Nat → M.D
  | none => .non
  | some n => .int (n : Int)
structure RunAt (ca : Nat → Addr) (m : List Cell) (kr ke kw : Nat) (O : M.D) (pl : List At) (L : Lg) : Prop where
  r : m[kr]? = some (.obj (ca 5) [("outcome", O), ("events", .ref ke), ("met", oM L.met), ("watch", .ref kw)])
  e : m[ke]? = some (.lst (L.evs.map encV))
  w : WatchAt ca m kw pl L.p
  d1 : kr ≠ ke
  d2 : kr ≠ kw
  d3 : ke ≠ kw
  n : L.evs.length ≤ 900000
def isTr : Option Bool → Bool
  | some b => b
  | none => false
def tru (V : Vs) : Option (Str × Ex × Ex) → Option Bool
  | none => some false
  | some (s, x, y) => (evC V (.cmp s x y)).map isTr
/-- an event happens -/
noncomputable def tick (pl : List At) (V : Vs) (L : Lg) (e : Ev) : Option Lg := match L.met with
  | some n => some { L with evs := L.evs ++ [e] }
  | none => (tru V (wants pl[L.p]? e)).map fun t => if meetsA pl[L.p]? e t = true then ⟨L.evs ++ [e], if L.p + 1 = pl.length then some L.evs.length else none, L.p + 1⟩ else ⟨L.evs ++ [e], none, L.p⟩
def Keep (S : List Nat) (m m' : List Cell) : Prop := m.length ≤ m'.length ∧ ∀ k, k < m.length → k ∉ S → m'[k]? = m[k]?
theorem Keep.refl {S : List Nat} {m : List Cell} : Keep S m m := ⟨Nat.le_refl _, fun _ _ _ => rfl⟩
theorem Keep.trans {S : List Nat} {m m' m'' : List Cell} (h : Keep S m m') (h2 : Keep S m' m'') : Keep S m m'' := ⟨Nat.le_trans h.1 h2.1, fun k hk hS => (h2.2 k (Nat.lt_of_lt_of_le hk h.1) hS).trans (h.2 k hk hS)⟩
theorem Keep.set {S : List Nat} {m m' : List Cell} {k : Nat} {c : Cell} (h : Keep S m m') (hk : k ∈ S) : Keep S m (m'.set k c) := ⟨by simpa using h.1, fun j hj hS => by
  rw [List.getElem?_set_ne (fun z => hS (by rw [← z]; exact hk))]; exact h.2 j hj hS⟩
theorem Keep.get {S : List Nat} {m m' : List Cell} (h : Keep S m m') {k : Nat} {c : Cell} (hc : m[k]? = some c) (hS : k ∉ S) : m'[k]? = some c := by
  rw [h.2 k (List.getElem?_eq_some_iff.mp hc).1 hS]; exact hc
end Lk13



namespace Lk13
open PySem L2 M
/-! happen -/
theorem ne_run : ¬ ("outcome" : Str) = "watch" ∧ ¬ ("events" : Str) = "watch" ∧ ¬ ("met" : Str) = "watch" ∧ ¬ ("outcome" : Str) = "met" ∧ ¬ ("events" : Str) = "met" ∧ ¬ ("outcome" : Str) = "events" := by decide +kernel
theorem sees_ok {ca : Nat → Addr} {m : List Cell} {kr ke kw : Nat} {O : M.D} {pl : List At} {L : Lg} (R : RunAt ca m kr ke kw O pl L) {e : Ev} (he : GoodV e) {V : Vs} {kv : Nat} {vd : List (Key × M.D)} (hv : m[kv]? = some (.dct vd)) (hV : VR m vd V) {t : Bool} (ht : tru V (wants pl[L.p]? e) = some t) :
    ∃ m', f_Run_sees ca [.ref kr, encV e, .ref kv] m = some (.bl (meetsA pl[L.p]? e t && decide (L.p + 1 = pl.length)), m') ∧ WatchAt ca m' kw pl (if meetsA pl[L.p]? e t = true then L.p + 1 else L.p) ∧ m' = m.set kw (.obj (ca 4) [("place", .tup (pl.map encA)), ("progress", .int ((if meetsA pl[L.p]? e t = true then L.p + 1 else L.p : Nat) : Int))]) := by
  have hw := wanted_ok R.w he
  obtain ⟨m', h1, h2, h3⟩ := see_ok R.w he t
  refine ⟨m', ?_, h2, h3⟩
  clear h2 h3
  have hve : ∀ S0 : Ms, vw S0 (encV e) = encV e := fun S0 => by cases e <;> rfl
  obtain ⟨r1, r2, r3, r4, r5, r6⟩ := ne_run
  obtain ⟨n1, n2, n3, n4, n5, n6, n7, n8⟩ := fld_meets
  have hr := R.r
  have hc := R.w.c
  have hlk : ∃ fs, m[kw]? = some (.obj (ca 4) fs) ∧ lkD "wanted" fs = none ∧ lkD "see" fs = none := ⟨_, hc, by simp [n3, n4], by simp [n7, n8]⟩
  obtain ⟨fs, hc2, hlk, hlk2⟩ := hlk
  generalize (meetsA pl[L.p]? e t && decide (L.p + 1 = pl.length)) = RR at *
  unfold f_Run_sees b_Run_sees
  generalize f_Watch_wanted ca = fw at *
  generalize f_Watch_see ca = fs' at *
  cases hwa : wants pl[L.p]? e with
  | none =>
    rw [hwa] at hw ht
    simp only [tru] at ht
    cases ht
    simp only [encW] at hw
    generalize encV e = E at *
    simp [fnM_ap, hr, hc2, hlk, hlk2, r1, r2, r3, hw, h1]
  | some q =>
    obtain ⟨s, x, y⟩ := q
    rw [hwa] at hw ht
    simp only [tru] at ht
    cases hev : evC V (.cmp s x y) with
    | none => rw [hev] at ht; cases ht
    | some r =>
      rw [hev] at ht
      have htr := truth_ok V m kv vd hv hV 8 (.cmp s x y) r (by simp [dpC]) hev
      have htr' : f_truth_of 8 [.tup [.str "cmp", .str s, encE x, encE y], .ref kv] m = some (oB r, m) := htr
      clear htr
      have hw' : fw [.ref kw, encV e] m = some (.tup [.str s, encE x, encE y], m) := hw
      have ht' : t = isTr r := (Option.some.inj ht).symm
      have his : gIs2 (oB r) (.bl true) = some (.bl t) := by
        rw [ht']
        cases r with
        | none => rfl
        | some b => cases b <;> rfl
      have hvb := fun S0 => vw_oB S0 r
      generalize oB r = OB at *
      generalize f_truth_of 8 = ft at *
      generalize encV e = E at *
      generalize encE x = X at *
      generalize encE y = Y at *
      simp [fnM_ap, hr, hc2, hlk, hlk2, r1, r2, r3, hw', htr', hvb, his, h1]
theorem happen_ok {ca : Nat → Addr} {m : List Cell} {kr ke kw : Nat} {O : M.D} {pl : List At} {L L' : Lg} (R : RunAt ca m kr ke kw O pl L) {e : Ev} (he : GoodV e) {V : Vs} {kv : Nat} {vd : List (Key × M.D)} (hv : m[kv]? = some (.dct vd)) (hV : VR m vd V) (hk : kv ≠ kr ∧ kv ≠ ke ∧ kv ≠ kw) (ht : tick pl V L e = some L') (hn : L'.evs.length ≤ 900000) :
    ∃ m', f_Run_happen ca [.ref kr, encV e, .ref kv] m = some (.non, m') ∧ RunAt ca m' kr ke kw O pl L' ∧ Keep [kr, ke, kw] m m' ∧ m'.length = m.length := by
  have hve : ∀ S0 : Ms, vw S0 (encV e) = encV e := fun S0 => by cases e <;> rfl
  obtain ⟨r1, r2, r3, r4, r5, r6⟩ := ne_run
  have hr := R.r
  have hev := R.e
  have hlr : kr < m.length := (List.getElem?_eq_some_iff.mp hr).1
  have hle : ke < m.length := (List.getElem?_eq_some_iff.mp hev).1
  have hlw : kw < m.length := (List.getElem?_eq_some_iff.mp R.w.c).1
  have hnl : (L.evs.map encV).length < 1000000 := by rw [List.length_map]; have := R.n; omega
  unfold tick at ht
  unfold f_Run_happen b_Run_happen
  cases hm : L.met with
  | some k =>
    rw [hm] at ht
    cases ht
    rw [hm] at hr
    simp only [oM] at hr
    refine ⟨m.set ke (.lst ((L.evs ++ [e]).map encV)), ?_, ⟨?_, ?_, ⟨?_, R.w.g, R.w.n⟩, R.d1, R.d2, R.d3, hn⟩, Keep.refl.set (by simp), by simp⟩
    · rw [List.map_append, show [e].map encV = [encV e] from rfl]
      generalize L.evs.map encV = EV at *
      generalize encV e = E at *
      simp [fnM_ap, hr, r4, r5, r6, hev, hve, hnl]
    · rw [List.getElem?_set_ne (Ne.symm R.d1), R.r, hm]
    · rw [List.getElem?_set_self hle]
    · rw [List.getElem?_set_ne R.d3, R.w.c]
  | none =>
    rw [hm] at ht
    simp only at ht
    cases htr : tru V (wants pl[L.p]? e) with
    | none => rw [htr] at ht; cases ht
    | some t =>
      rw [htr] at ht
      obtain ⟨m1, h1, h2, h3⟩ := sees_ok R he hv hV htr
      have hL : L' = (if meetsA pl[L.p]? e t = true then ⟨L.evs ++ [e], if L.p + 1 = pl.length then some L.evs.length else none, L.p + 1⟩ else ⟨L.evs ++ [e], none, L.p⟩ : Lg) := (Option.some.inj ht).symm
      have hev' : L'.evs = L.evs ++ [e] := by rw [hL]; split <;> rfl
      have hp' : L'.p = (if meetsA pl[L.p]? e t = true then L.p + 1 else L.p) := by rw [hL]; split <;> rfl
      have hm' : L'.met = (if (meetsA pl[L.p]? e t && decide (L.p + 1 = pl.length)) = true then some L.evs.length else none) := by
        rw [hL]
        cases hb : meetsA pl[L.p]? e t with
        | false => simp
        | true => by_cases q : L.p + 1 = pl.length <;> simp [q]
      rw [hm] at hr
      simp only [oM] at hr
      rw [← hp'] at h2
      have hr1 : m1[kr]? = some (.obj (ca 5) [("outcome", O), ("events", .ref ke), ("met", .non), ("watch", .ref kw)]) := by rw [h3, List.getElem?_set_ne (Ne.symm R.d2)]; exact hr
      have he1 : m1[ke]? = some (.lst (L.evs.map encV)) := by rw [h3, List.getElem?_set_ne (Ne.symm R.d3)]; exact hev
      have hl1 : m1.length = m.length := by rw [h3]; simp
      have hsee : ∃ fs, m[kr]? = some (.obj (ca 5) fs) ∧ lkD "sees" fs = none ∧ lkD "met" fs = some .non := ⟨_, hr, by simp [show ¬ ("outcome" : Str) = "sees" by decide +kernel, show ¬ ("events" : Str) = "sees" by decide +kernel, show ¬ ("met" : Str) = "sees" by decide +kernel, show ¬ ("watch" : Str) = "sees" by decide +kernel], by simp [r4, r5]⟩
      obtain ⟨fs, hs1, hs2, hs3⟩ := hsee
      have k1 : Keep [kr, ke, kw] m m1 := by rw [h3]; exact Keep.refl.set (by simp)
      cases hb : (meetsA pl[L.p]? e t && decide (L.p + 1 = pl.length)) with
      | false =>
        rw [hb] at h1 hm'
        rw [if_neg (by simp)] at hm'
        refine ⟨m1.set ke (.lst (L'.evs.map encV)), ?_, ⟨?_, ?_, ⟨?_, R.w.g, R.w.n⟩, R.d1, R.d2, R.d3, hn⟩, k1.set (by simp), by simp [hl1]⟩
        · rw [hev', List.map_append, show [e].map encV = [encV e] from rfl]
          clear h2 h3 hL hp' hm' ht htr hn k1
          generalize L.evs.map encV = EV at *
          generalize encV e = E at *
          generalize f_Run_sees ca = fs' at *
          simp [fnM_ap, hs1, hs2, hs3, h1, hr1, he1, r6, hve, hnl]
        · rw [List.getElem?_set_ne (Ne.symm R.d1), hr1, hm']; rfl
        · rw [List.getElem?_set_self (by omega)]
        · rw [List.getElem?_set_ne R.d3]; exact h2.c
      | true =>
        rw [hb] at h1 hm'
        rw [if_pos rfl] at hm'
        refine ⟨(m1.set kr (.obj (ca 5) [("outcome", O), ("events", .ref ke), ("met", .int (L.evs.length : Int)), ("watch", .ref kw)])).set ke (.lst (L'.evs.map encV)), ?_, ⟨?_, ?_, ⟨?_, R.w.g, R.w.n⟩, R.d1, R.d2, R.d3, hn⟩, (k1.set (by simp)).set (by simp), by simp [hl1]⟩
        · rw [hev', List.map_append, show [e].map encV = [encV e] from rfl]
          have hgl : gLen (.lst (L.evs.map encV)) = some (.int (L.evs.length : Int)) := by simp
          have hlr1 : kr < m1.length := by omega
          have hg : ∀ c : Cell, (m1.set kr c)[kr]? = some c := fun c => List.getElem?_set_self hlr1
          have hg2 : ∀ c : Cell, (m1.set kr c)[ke]? = some (.lst (L.evs.map encV)) := fun c => by rw [List.getElem?_set_ne R.d1]; exact he1
          clear h2 h3 hL hp' hm' ht htr hn k1
          generalize (L.evs.length : Int) = NE at *
          generalize L.evs.map encV = EV at *
          generalize encV e = E at *
          generalize f_Run_sees ca = fs' at *
          simp [-gLen_lst, fnM_ap, hs1, hs2, hs3, h1, hr1, he1, r4, r5, r6, hve, hnl, hgl, hg, hg2]
        · rw [List.getElem?_set_ne (Ne.symm R.d1), List.getElem?_set_self (by omega), hm']; rfl
        · rw [List.getElem?_set_self (by simp; omega)]
        · rw [List.getElem?_set_ne R.d3, List.getElem?_set_ne R.d2]; exact h2.c
end Lk13



namespace Lk13
open PySem L2 M
/-! faults -/
theorem fault_ok {ca : Nat → Addr} {m : List Cell} {kr ke kw : Nat} {O : M.D} {pl : List At} {L L' : Lg} (R : RunAt ca m kr ke kw O pl L) {row : Int} {k : Str} (hk1 : PyData.strOk k = true) {V : Vs} {kv : Nat} {vd : List (Key × M.D)} (hv : m[kv]? = some (.dct vd)) (hV : VR m vd V) (hk : kv ≠ kr ∧ kv ≠ ke ∧ kv ≠ kw) (ht : tick pl V L (.fault row k) = some L') (hn : L'.evs.length ≤ 900000) :
    ∃ m', f_Run_fault ca [.ref kr, .int row, .str k, .ref kv] m = some (.tup [.str "fault", .int row, .str k], m') ∧ RunAt ca m' kr ke kw O pl L' ∧ Keep [kr, ke, kw] m m' ∧ m'.length = m.length := by
  obtain ⟨m', h1, h2, h3, h4⟩ := happen_ok R (e := .fault row k) hk1 hv hV hk ht hn
  refine ⟨m', ?_, h2, h3, h4⟩
  have h1' : f_Run_happen ca [.ref kr, .tup [.str "fault", .int row, .str k], .ref kv] m = some (.non, m') := h1
  obtain ⟨r1, r2, r3, r4, r5, r6⟩ := ne_run
  have hr := R.r
  have hs : ∃ fs, m[kr]? = some (.obj (ca 5) fs) ∧ lkD "happen" fs = none := ⟨_, hr, by simp [show ¬ ("outcome" : Str) = "happen" by decide +kernel, show ¬ ("events" : Str) = "happen" by decide +kernel, show ¬ ("met" : Str) = "happen" by decide +kernel, show ¬ ("watch" : Str) = "happen" by decide +kernel]⟩
  obtain ⟨fs, hs1, hs2⟩ := hs
  unfold f_Run_fault b_Run_fault
  generalize f_Run_happen ca = fh at *
  simp [fnM_ap, hs1, hs2, h1']
end Lk13



namespace Lk13
open PySem L2 M
theorem lk_map {k j : Key} {d : M.D} (h : ¬ j = k) : ∀ kds : List (Key × M.D), lkK (kds.map fun kd => if kd.1 = k then (kd.1, d) else kd) j = lkK kds j
  | [] => rfl
  | (a, b) :: r => by
    rw [List.map_cons]
    by_cases e : a = k
    · subst e
      have q : ¬ a = j := fun z => h z.symm
      simp only [if_true, lkK_cons, q, if_false]
      exact lk_map h r
    · simp only [e, if_false, lkK_cons]
      by_cases q : a = j
      · simp [q]
      · simp only [q, if_false]; exact lk_map h r
theorem lk_map_self {k : Key} {d : M.D} : ∀ {kds : List (Key × M.D)}, (lkK kds k).isSome = true → lkK (kds.map fun kd => if kd.1 = k then (kd.1, d) else kd) k = some d
  | [], h => by simp at h
  | (a, b) :: r, h => by
    rw [List.map_cons]
    by_cases e : a = k
    · simp [e]
    · simp only [lkK_cons, e, if_false] at h ⊢
      exact lk_map_self h
theorem lk_snoc {k j : Key} {d : M.D} : ∀ {kds : List (Key × M.D)}, lkK kds k = none → lkK (kds ++ [(k, d)]) j = if j = k then some d else lkK kds j
  | [], _ => by
    by_cases q : j = k
    · simp [q]
    · have q2 : ¬ k = j := fun z => q z.symm
      simp [q, q2]
  | (a, b) :: r, h => by
    rw [List.cons_append, lkK_cons, lkK_cons]
    by_cases e : a = k
    · subst e; simp at h
    · simp only [lkK_cons, e, if_false] at h
      by_cases q : a = j
      · subst q; simp [e]
      · simp only [q, if_false]; exact lk_snoc h
theorem lk_pt {kds : List (Key × M.D)} {k j : Key} {d : M.D} : lkK (ptK kds k d) j = if j = k then some d else lkK kds j := by
  unfold ptK
  cases h : lkK kds k with
  | some v =>
    rw [if_pos (show (some v).isSome = true from rfl)]
    by_cases q : j = k
    · subst q; rw [if_pos rfl]; exact lk_map_self (by rw [h]; rfl)
    · rw [if_neg q]; exact lk_map q kds
  | none => rw [if_neg (by simp)]; exact lk_snoc h
theorem pt_len {kds : List (Key × M.D)} {k : Key} {d : M.D} : (ptK kds k d).length ≤ kds.length + 1 := by
  unfold ptK
  split
  · simp
  · simp
/-! frames -/
/-- a body's variables and ranges; S: the cells that are no lists of it -/
structure FrameAt (ca : Nat → Addr) (n0 : Nat) (m : List Cell) (S : List Nat) (kf kv kg : Nat) (V : Vs) (G : Str → Option (Int × Int)) (vd gd : List (Key × M.D)) : Prop where
  f : m[kf]? = some (.obj (ca 6) [("variables", .ref kv), ("ranges", .ref kg)])
  v : m[kv]? = some (.dct vd)
  vr : VR m vd V
  vl : vd.length ≤ 100000
  g : m[kg]? = some (.dct gd)
  gr : ∀ x, lkK gd (.inr x) = (G x).map fun p => M.D.tup [.int p.1, .int p.2]
  gl : gd.length ≤ 100000
  ap : ∀ x k, lkK vd x = some (.ref k) → k ∉ S
  inj : ∀ x y k, lkK vd x = some (.ref k) → lkK vd y = some (.ref k) → x = y
  mem : kf ∈ S ∧ kv ∈ S ∧ kg ∈ S
  lo : ∀ x k, lkK vd x = some (.ref k) → n0 ≤ k
  nb : n0 ≤ kf ∧ n0 ≤ kv ∧ n0 ≤ kg
  d1 : kf ≠ kv
  d2 : kf ≠ kg
  d3 : kv ≠ kg
  hi : ∀ x k, lkK vd x = some (.ref k) → k < m.length
theorem VR.keep {m m' : List Cell} {S T : List Nat} {vd : List (Key × M.D)} {V : Vs} (h : VR m vd V) (hk : Keep T m m') (ap : ∀ x k, lkK vd x = some (.ref k) → k ∉ S) (hT : ∀ k ∈ T, k ∈ S) : VR m' vd V := fun x => by
  have hx := h x
  cases hv : V x with
  | none => rw [hv] at hx; exact hx
  | some w =>
    rw [hv] at hx
    cases w with
    | int i => exact hx
    | lst l =>
      obtain ⟨h1, k, h2, h3⟩ := hx
      exact ⟨h1, k, h2, hk.get h3 fun z => ap _ _ h2 (hT k z)⟩
theorem FrameAt.keep {ca : Nat → Addr} {n0 : Nat} {m m' : List Cell} {S T : List Nat} {kf kv kg : Nat} {V : Vs} {G : Str → Option (Int × Int)} {vd gd : List (Key × M.D)} (h : FrameAt ca n0 m S kf kv kg V G vd gd) (hk : Keep T m m') (hT : ∀ k ∈ T, k ∈ S) (h1 : kf ∉ T ∧ kv ∉ T ∧ kg ∉ T) : FrameAt ca n0 m' S kf kv kg V G vd gd :=
  ⟨hk.get h.f h1.1, hk.get h.v h1.2.1, h.vr.keep hk h.ap hT, h.vl, hk.get h.g h1.2.2, h.gr, h.gl, h.ap, h.inj, h.mem, h.lo, h.nb, h.d1, h.d2, h.d3, fun x k e => Nat.lt_of_lt_of_le (h.hi x k e) hk.1⟩
/-- cells below n0 but those in T stay -/
def Kp (n0 : Nat) (T : List Nat) (m m' : List Cell) : Prop := m.length ≤ m'.length ∧ ∀ k, k < n0 → k < m.length → k ∉ T → m'[k]? = m[k]?
theorem Kp.refl {n0 : Nat} {T : List Nat} {m : List Cell} : Kp n0 T m m := ⟨Nat.le_refl _, fun _ _ _ _ => rfl⟩
theorem Kp.trans {n0 : Nat} {T : List Nat} {m m' m'' : List Cell} (h : Kp n0 T m m') (h2 : Kp n0 T m' m'') : Kp n0 T m m'' := ⟨Nat.le_trans h.1 h2.1, fun k a b c => (h2.2 k a (Nat.lt_of_lt_of_le b h.1) c).trans (h.2 k a b c)⟩
theorem Keep.kp {n0 : Nat} {T : List Nat} {m m' : List Cell} (h : Keep T m m') : Kp n0 T m m' := ⟨h.1, fun k _ b c => h.2 k b c⟩
theorem Kp.set {n0 : Nat} {T : List Nat} {m m' : List Cell} {k : Nat} {c : Cell} (h : Kp n0 T m m') (hk : n0 ≤ k) : Kp n0 T m (m'.set k c) := ⟨by simpa using h.1, fun j a b d => by
  rw [List.getElem?_set_ne (by omega)]; exact h.2 j a b d⟩
theorem Kp.app {n0 : Nat} {T : List Nat} {m m' r : List Cell} (h : Kp n0 T m m') : Kp n0 T m (m' ++ r) := ⟨by have := h.1; simp; omega, fun j a b d => by
  rw [List.getElem?_append_left (Nat.lt_of_lt_of_le b h.1)]; exact h.2 j a b d⟩
theorem Kp.keep {n0 : Nat} {T : List Nat} {m m' : List Cell} (h : Kp n0 T m m') (hn : m.length ≤ n0) : Keep T m m' := ⟨h.1, fun k a b => h.2 k (by omega) a b⟩
end Lk13



namespace Lk13
open PySem L2 M
/-! store -/
open Classical in
noncomputable def setV (V : Vs) (x : Str) (v : Vl) : Vs := fun y => if y = x then some v else V y
theorem pt_same {kds : List (Key × M.D)} {k : Key} {d : M.D} (h : (lkK kds k).isSome = true) : (ptK kds k d).length = kds.length := by
  unfold ptK
  rw [if_pos h]; simp
theorem FrameAt.put {ca : Nat → Addr} {n0 : Nat} {m : List Cell} {S : List Nat} {kf kv kg : Nat} {V : Vs} {G : Str → Option (Int × Int)} {vd gd : List (Key × M.D)} (h : FrameAt ca n0 m S kf kv kg V G vd gd) (x : Str) (i : Int) (hl : (ptK vd (.inr x) (.int i)).length ≤ 100000) : FrameAt ca n0 (m.set kv (.dct (ptK vd (.inr x) (.int i)))) S kf kv kg (setV V x (.int i)) G (ptK vd (.inr x) (.int i)) gd := by
  have hkv : kv < m.length := (List.getElem?_eq_some_iff.mp h.v).1
  refine ⟨by rw [List.getElem?_set_ne (Ne.symm h.d1)]; exact h.f, List.getElem?_set_self hkv, fun y => ?_, hl, by rw [List.getElem?_set_ne h.d3]; exact h.g, h.gr, h.gl, fun y k e => ?_, fun y z k e1 e2 => ?_, h.mem, fun y k e => ?_, h.nb, h.d1, h.d2, h.d3, fun y k e => ?_⟩
  · unfold setV
    by_cases q : y = x
    · subst q
      rw [if_pos rfl]
      show lkK _ _ = _
      rw [lk_pt, if_pos rfl]
    · rw [if_neg q]
      have hne : ¬ (Sum.inr y : Key) = .inr x := fun z => q (Sum.inr.inj z)
      have hy := h.vr y
      cases hv : V y with
      | none =>
        rw [hv] at hy
        show lkK _ _ = _
        rw [lk_pt, if_neg hne]; exact hy
      | some w =>
        rw [hv] at hy
        cases w with
        | int j =>
          show lkK _ _ = _
          rw [lk_pt, if_neg hne]; exact hy
        | lst l =>
          obtain ⟨h1, k, h2, h3⟩ := hy
          refine ⟨h1, k, by rw [lk_pt, if_neg hne]; exact h2, ?_⟩
          rw [List.getElem?_set_ne (fun z => h.ap _ _ h2 (by rw [← z]; exact h.mem.2.1))]
          exact h3
  · rw [lk_pt] at e
    split at e
    · cases e
    · exact h.ap _ _ e
  · rw [lk_pt] at e1 e2
    split at e1
    · cases e1
    · split at e2
      · cases e2
      · exact h.inj _ _ _ e1 e2
  · rw [lk_pt] at e
    split at e
    · cases e
    · exact h.lo _ _ e
  · rw [lk_pt] at e
    rw [List.length_set]
    split at e
    · cases e
    · exact h.hi _ _ e
theorem ne_fr : ¬ ("variables" : Str) = "ranges" := by decide +kernel
/-- the ranges' test -/
def inG (G : Str → Option (Int × Int)) (x : Str) (i : Int) : Bool := match G x with
  | none => true
  | some (lo, hi) => decide (lo ≤ i) && decide (i ≤ hi)
theorem store_good {ca : Nat → Addr} {n0 : Nat} {m : List Cell} {S : List Nat} {kf kv kg : Nat} {V : Vs} {G : Str → Option (Int × Int)} {vd gd : List (Key × M.D)} (h : FrameAt ca n0 m S kf kv kg V G vd gd) (x : Str) (i : Int) (hG : inG G x i = true) (kr : Nat) (row : Int) : f_store ca [.ref kr, .ref kf, .int row, .str x, .int i] m = some (.non, m.set kv (.dct (ptK vd (.inr x) (.int i)))) := by
  have hf := h.f
  have hv := h.v
  have hg := h.g
  have hgr := h.gr x
  have hl : vd.length < 1000000 := by have := h.vl; omega
  unfold f_store b_store t_store_2 t_store_1
  unfold inG at hG
  cases e : G x with
  | none =>
    rw [e] at hgr
    simp only [Option.map_none] at hgr
    simp [fnM_ap, hf, hv, hg, ne_fr, keyD, hgr, hl]
  | some p =>
    obtain ⟨lo, hi⟩ := p
    rw [e] at hgr hG
    simp only [Option.map_some] at hgr
    simp only [Bool.and_eq_true, decide_eq_true_eq] at hG
    simp [fnM_ap, eChain, hf, hv, hg, ne_fr, keyD, gIxK, hgr, hl, hG.1, hG.2]
end Lk13



namespace Lk13
open PySem L2 M
/-! faults of a store -/
theorem store_none {ca : Nat → Addr} {n0 : Nat} {m m' : List Cell} {S : List Nat} {kf kv kg kr : Nat} {V : Vs} {G : Str → Option (Int × Int)} {vd gd : List (Key × M.D)} (h : FrameAt ca n0 m S kf kv kg V G vd gd) (x : Str) (row : Int) {d : M.D} (hf : f_Run_fault ca [.ref kr, .int row, .str "index", .ref kv] m = some (d, m')) (hk : ∃ fs, m[kr]? = some (.obj (ca 5) fs) ∧ lkD "fault" fs = none) : f_store ca [.ref kr, .ref kf, .int row, .str x, .non] m = some (d, m') := by
  have hff := h.f
  obtain ⟨fs, h1, h2⟩ := hk
  unfold f_store b_store
  generalize f_Run_fault ca = ft at *
  generalize t_store_2 ca = tl
  revert tl; refine opq ?_; intro tl
  simp [fnM_ap, hff, h1, h2, hf]
theorem store_range {ca : Nat → Addr} {n0 : Nat} {m m' : List Cell} {S : List Nat} {kf kv kg kr : Nat} {V : Vs} {G : Str → Option (Int × Int)} {vd gd : List (Key × M.D)} (h : FrameAt ca n0 m S kf kv kg V G vd gd) (x : Str) (i : Int) (hG : inG G x i = false) (row : Int) {d : M.D} (hf : f_Run_fault ca [.ref kr, .int row, .str "range", .ref kv] m = some (d, m')) (hk : ∃ fs, m[kr]? = some (.obj (ca 5) fs) ∧ lkD "fault" fs = none) : f_store ca [.ref kr, .ref kf, .int row, .str x, .int i] m = some (d, m') := by
  have hff := h.f
  have hv := h.v
  have hg := h.g
  have hgr := h.gr x
  obtain ⟨fs, h1, h2⟩ := hk
  unfold f_store b_store t_store_2
  unfold inG at hG
  generalize f_Run_fault ca = ft at *
  generalize t_store_1 ca = tl
  cases e : G x with
  | none => rw [e] at hG; cases hG
  | some p =>
    obtain ⟨lo, hi⟩ := p
    rw [e] at hgr hG
    simp only [Option.map_some] at hgr
    simp only [Bool.and_eq_false_iff, decide_eq_false_iff_not] at hG
    revert tl; refine opq ?_; intro tl
    by_cases q : lo ≤ i
    · have q2 : ¬ i ≤ hi := by rcases hG with z | z; exact absurd q z; exact z
      simp [fnM_ap, eChain, hff, hv, hg, ne_fr, keyD, gIxK, hgr, q, q2, h1, h2, hf]
    · simp [fnM_ap, eChain, hff, hv, hg, ne_fr, keyD, gIxK, hgr, q, h1, h2, hf]
theorem run_no {ca : Nat → Addr} {m : List Cell} {kr ke kw : Nat} {O : M.D} {pl : List At} {L : Lg} (R : RunAt ca m kr ke kw O pl L) : (∃ fs, m[kr]? = some (.obj (ca 5) fs) ∧ lkD "fault" fs = none) ∧ ∃ fs, m[kr]? = some (.obj (ca 5) fs) ∧ lkD "happen" fs = none :=
  ⟨⟨_, R.r, by simp [show ¬ ("outcome" : Str) = "fault" by decide +kernel, show ¬ ("events" : Str) = "fault" by decide +kernel, show ¬ ("met" : Str) = "fault" by decide +kernel, show ¬ ("watch" : Str) = "fault" by decide +kernel]⟩, ⟨_, R.r, by simp [show ¬ ("outcome" : Str) = "happen" by decide +kernel, show ¬ ("events" : Str) = "happen" by decide +kernel, show ¬ ("met" : Str) = "happen" by decide +kernel, show ¬ ("watch" : Str) = "happen" by decide +kernel]⟩⟩
end Lk13



namespace Lk13
open PySem L2 M
/-! statements and what they do -/
inductive Sm where
  | let_ (row : Int) (x : Str) (rg : Option (Int × Int)) (e : Ex)
  | list_ (row : Int) (x : Str) (n : Nat) (e : Ex)
  | set_ (row : Int) (x : Str) (e : Ex)
  | put_ (row : Int) (x : Str) (i e : Ex)
  | call_ (row : Int) (x f : Str) (as : List Ex)
  | if_ (row : Int) (c : Cn) (a b : List Sm)
  | while_ (row : Int) (c : Cn) (n : Nat) (b : List Sm)
  | check_ (row : Int) (c : Cn)
  | refuse_ (row : Int) (w : Str)
  | skip_ (row : Int)
  | answer_ (row : Int) (e : Ex)
  | return_ (row : Int) (e : Ex)
def oLo : Option (Int × Int) → M.D
  | none => .non
  | some p => .int p.1
def oHi : Option (Int × Int) → M.D
  | none => .non
  | some p => .int p.2
mutual
def encS : Sm → M.D
  | .let_ r x g e => .tup [.str "let", .int r, .str x, oLo g, oHi g, encE e]
  | .list_ r x n e => .tup [.str "list", .int r, .str x, .int (n : Int), encE e]
  | .set_ r x e => .tup [.str "set", .int r, .str x, encE e]
  | .put_ r x i e => .tup [.str "put", .int r, .str x, encE i, encE e]
  | .call_ r x f as => .tup [.str "call", .int r, .str x, .str f, .tup (as.map encE)]
  | .if_ r c a b => .tup [.str "if", .int r, encC c, .tup (encB a), .tup (encB b)]
  | .while_ r c n b => .tup [.str "while", .int r, encC c, .int (n : Int), .tup (encB b)]
  | .check_ r c => .tup [.str "check", .int r, encC c]
  | .refuse_ r w => .tup [.str "refuse", .int r, .str w]
  | .skip_ r => .tup [.str "skip", .int r]
  | .answer_ r e => .tup [.str "answer", .int r, encE e]
  | .return_ r e => .tup [.str "return", .int r, encE e]
def encB : List Sm → List M.D
  | [] => []
  | s :: ss => encS s :: encB ss
end
inductive Out where
  | fault (row : Int) (k : Str) | answer (v : Int) | ret (v : Int)
def encO : Option Out → M.D
  | none => .non
  | some (.fault r k) => .tup [.str "fault", .int r, .str k]
  | some (.answer v) => .tup [.str "answer", .int v]
  | some (.ret v) => .tup [.str "return", .int v]
structure Wo where
  V : Vs
  G : Str → Option (Int × Int)
  L : Lg
structure Fn where
  row : Int
  name : Str
  ps : List Str
  body : List Sm
def encF (f : Fn) : M.D := .tup [.int f.row, .str f.name, .tup (f.ps.map M.D.str), .tup (encB f.body)]
section
variable (pl : List At)
noncomputable def tk (w : Wo) (e : Ev) : Option Wo := (tick pl w.V w.L e).map fun l => { w with L := l }
noncomputable def flt (w : Wo) (row : Int) (k : Str) : Option (Wo × Option Out) := (tk pl w (.fault row k)).map fun w' => (w', some (.fault row k))
noncomputable def sto (w : Wo) (row : Int) (x : Str) : Option Int → Option (Wo × Option Out)
  | none => flt pl w row "index"
  | some i => if inG w.G x i = true then some ({ w with V := setV w.V x (.int i) }, none) else flt pl w row "range"
noncomputable def askP (w : Wo) (row : Int) (c : Cn) : Option (Wo × Option Bool) := (tk pl w (.row row)).bind fun w1 => (evC w1.V c).bind fun r => match r with
  | some true => (tk pl w1 (.yes row)).map fun w2 => (w2, some true)
  | some false => (tk pl w1 (.no row)).map fun w2 => (w2, some false)
  | none => some (w1, none)
end
end Lk13



namespace Lk13
open PySem L2 M
/-! a body at work -/
structure WAt (ca : Nat → Addr) (n0 : Nat) (m : List Cell) (kr ke kw : Nat) (O : M.D) (pl : List At) (kf kv kg : Nat) (w : Wo) (vd gd : List (Key × M.D)) : Prop where
  r : RunAt ca m kr ke kw O pl w.L
  f : FrameAt ca n0 m [kr, ke, kw, kf, kv, kg] kf kv kg w.V w.G vd gd
  lo : kr < n0 ∧ ke < n0 ∧ kw < n0
theorem WAt.ne {ca : Nat → Addr} {n0 : Nat} {m : List Cell} {kr ke kw : Nat} {O : M.D} {pl : List At} {kf kv kg : Nat} {w : Wo} {vd gd : List (Key × M.D)} (h : WAt ca n0 m kr ke kw O pl kf kv kg w vd gd) : (kv ≠ kr ∧ kv ≠ ke ∧ kv ≠ kw) ∧ (kf ∉ [kr, ke, kw] ∧ kv ∉ [kr, ke, kw] ∧ kg ∉ [kr, ke, kw]) := by
  obtain ⟨a, b, c⟩ := h.lo
  obtain ⟨x, y, z⟩ := h.f.nb
  refine ⟨⟨by omega, by omega, by omega⟩, ?_, ?_, ?_⟩ <;> (simp; omega)
theorem tk_ok {ca : Nat → Addr} {n0 : Nat} {m : List Cell} {kr ke kw : Nat} {O : M.D} {pl : List At} {kf kv kg : Nat} {w w' : Wo} {vd gd : List (Key × M.D)} (h : WAt ca n0 m kr ke kw O pl kf kv kg w vd gd) {e : Ev} (he : GoodV e) (ht : tk pl w e = some w') (hn : w'.L.evs.length ≤ 900000) :
    ∃ m', f_Run_happen ca [.ref kr, encV e, .ref kv] m = some (.non, m') ∧ WAt ca n0 m' kr ke kw O pl kf kv kg w' vd gd ∧ Kp n0 [kr, ke, kw] m m' := by
  unfold tk at ht
  cases e1 : tick pl w.V w.L e with
  | none => rw [e1] at ht; cases ht
  | some l =>
    rw [e1] at ht
    cases ht
    obtain ⟨m', h1, h2, h3, h4⟩ := happen_ok h.r he h.f.v h.f.vr h.ne.1 e1 hn
    exact ⟨m', h1, ⟨h2, h.f.keep h3 (by simp) h.ne.2, h.lo⟩, h3.kp⟩
theorem flt_ok {ca : Nat → Addr} {n0 : Nat} {m : List Cell} {kr ke kw : Nat} {O : M.D} {pl : List At} {kf kv kg : Nat} {w w' : Wo} {o : Option Out} {vd gd : List (Key × M.D)} (h : WAt ca n0 m kr ke kw O pl kf kv kg w vd gd) {row : Int} {k : Str} (hk : PyData.strOk k = true) (ht : flt pl w row k = some (w', o)) (hn : w'.L.evs.length ≤ 900000) :
    ∃ m', f_Run_fault ca [.ref kr, .int row, .str k, .ref kv] m = some (encO o, m') ∧ WAt ca n0 m' kr ke kw O pl kf kv kg w' vd gd ∧ Kp n0 [kr, ke, kw] m m' := by
  unfold flt tk at ht
  cases e1 : tick pl w.V w.L (.fault row k) with
  | none => rw [e1] at ht; cases ht
  | some l =>
    rw [e1] at ht
    cases ht
    obtain ⟨m', h1, h2, h3, h4⟩ := fault_ok h.r hk h.f.v h.f.vr h.ne.1 e1 hn
    exact ⟨m', h1, ⟨h2, h.f.keep h3 (by simp) h.ne.2, h.lo⟩, h3.kp⟩
end Lk13



namespace Lk13
open PySem L2 M
/-! ask -/
theorem ask_ok {ca : Nat → Addr} {n0 : Nat} {m : List Cell} {kr ke kw : Nat} {O : M.D} {pl : List At} {kf kv kg : Nat} {w w' : Wo} {r : Option Bool} {vd gd : List (Key × M.D)} (h : WAt ca n0 m kr ke kw O pl kf kv kg w vd gd) {row : Int} {c : Cn} {tag : Str} {rest : List M.D} (hd : dpC c ≤ 8) (ht : askP pl w row c = some (w', r)) (hn : w'.L.evs.length ≤ 900000) (hn2 : w.L.evs.length ≤ 800000) :
    ∃ m', f_ask ca [.ref kr, .ref kf, .tup (.str tag :: .int row :: encC c :: rest)] m = some (oB r, m') ∧ WAt ca n0 m' kr ke kw O pl kf kv kg w' vd gd ∧ Kp n0 [kr, ke, kw] m m' := by
  unfold askP at ht
  cases e1 : tk pl w (.row row) with
  | none => rw [e1] at ht; cases ht
  | some w1 =>
    rw [e1] at ht
    simp only [Option.bind_some] at ht
    have hl1 : w1.L.evs = w.L.evs ++ [.row row] := by
      unfold tk at e1
      cases e2 : tick pl w.V w.L (.row row) with
      | none => rw [e2] at e1; cases e1
      | some l =>
        rw [e2] at e1
        cases e1
        unfold tick at e2
        split at e2
        · cases e2; rfl
        · cases e3 : tru w.V (wants pl[w.L.p]? (.row row)) with
          | none => rw [e3] at e2; cases e2
          | some t => rw [e3] at e2; simp only [Option.map_some] at e2; split at e2 <;> (cases e2; rfl)
    obtain ⟨m1, h1, a1, k1⟩ := tk_ok h (e := .row row) trivial e1 (by rw [hl1]; simp; omega)
    cases e2 : evC w1.V c with
    | none => rw [e2] at ht; cases ht
    | some q =>
      rw [e2] at ht
      simp only [Option.bind_some] at ht
      have htr := truth_ok w1.V m1 kv vd a1.f.v a1.f.vr 8 c q hd e2
      have hff := h.f.f
      have hff1 := a1.f.f
      obtain ⟨fs, s1, s2⟩ := (run_no h.r).2
      obtain ⟨fs1, s3, s4⟩ := (run_no a1.r).2
      have h1' : f_Run_happen ca [.ref kr, .tup [.str "row", .int row], .ref kv] m = some (.non, m1) := h1
      have a0 : atI (.str tag :: .int row :: encC c :: rest) 1 = some (.int row) := (atI_pos (by omega) (by simp; omega)).trans rfl
      have a2 : atI (.str tag :: .int row :: encC c :: rest) 2 = some (encC c) := (atI_pos (by omega) (by simp; omega)).trans rfl
      have hvc := fun S0 => vw_C S0 c
      generalize (M.D.str tag :: .int row :: encC c :: rest) = ST at *
      generalize encC c = C at *
      unfold f_ask b_ask t_ask_4 t_ask_3 t_ask_2 t_ask_1
      cases q with
      | none =>
        cases ht
        refine ⟨m1, ?_, a1, k1⟩
        simp only [oB] at htr ⊢
        generalize f_truth_of 8 = ft at *
        generalize f_Run_happen ca = fh at *
        simp [fnM_ap, hff, hff1, s1, s2, a0, a2, h1', htr, hvc]
      | some b =>
        cases b with
        | true =>
          simp only at ht
          cases e3 : tk pl w1 (.yes row) with
          | none => rw [e3] at ht; cases ht
          | some w2 =>
            rw [e3] at ht
            cases ht
            obtain ⟨m2, h2, a3, k2⟩ := tk_ok a1 (e := .yes row) trivial e3 hn
            have h2' : f_Run_happen ca [.ref kr, .tup [.str "yes", .int row], .ref kv] m1 = some (.non, m2) := h2
            refine ⟨m2, ?_, a3, k1.trans k2⟩
            simp only [oB] at htr ⊢
            generalize f_truth_of 8 = ft at *
            generalize f_Run_happen ca = fh at *
            simp [fnM_ap, hff, hff1, s1, s2, s3, s4, a0, a2, h1', h2', htr, hvc]
        | false =>
          simp only at ht
          cases e3 : tk pl w1 (.no row) with
          | none => rw [e3] at ht; cases ht
          | some w2 =>
            rw [e3] at ht
            cases ht
            obtain ⟨m2, h2, a3, k2⟩ := tk_ok a1 (e := .no row) trivial e3 hn
            have h2' : f_Run_happen ca [.ref kr, .tup [.str "no", .int row], .ref kv] m1 = some (.non, m2) := h2
            refine ⟨m2, ?_, a3, k1.trans k2⟩
            simp only [oB] at htr ⊢
            generalize f_truth_of 8 = ft at *
            generalize f_Run_happen ca = fh at *
            simp [fnM_ap, hff, hff1, s1, s2, s3, s4, a0, a2, h1', h2', htr, hvc]
end Lk13



namespace Lk13
open PySem L2 M
/-! store, check -/
theorem sto_ok {ca : Nat → Addr} {n0 : Nat} {m : List Cell} {kr ke kw : Nat} {O : M.D} {pl : List At} {kf kv kg : Nat} {w w' : Wo} {o : Option Out} {vd gd : List (Key × M.D)} (h : WAt ca n0 m kr ke kw O pl kf kv kg w vd gd) {row : Int} {x : Str} {r : Option Int} (ht : sto pl w row x r = some (w', o)) (hn : w'.L.evs.length ≤ 900000) (hl : vd.length < 100000) :
    ∃ m' vd', f_store ca [.ref kr, .ref kf, .int row, .str x, oZ r] m = some (encO o, m') ∧ WAt ca n0 m' kr ke kw O pl kf kv kg w' vd' gd ∧ Kp n0 [kr, ke, kw] m m' ∧ vd'.length ≤ vd.length + 1 ∧ ((lkK vd (.inr x)).isSome = true → vd'.length = vd.length) := by
  cases r with
  | none =>
    obtain ⟨m', h1, h2, h3⟩ := flt_ok h (by decide +kernel) ht hn
    exact ⟨m', vd, store_none h.f x row h1 (run_no h.r).1, h2, h3, by omega, fun _ => rfl⟩
  | some i =>
    simp only [sto] at ht
    split at ht
    · rename_i hG
      cases ht
      have hp := pt_len (kds := vd) (k := .inr x) (d := .int i)
      have hput := h.f.put x i (by omega)
      have hkv : n0 ≤ kv := h.f.nb.2.1
      obtain ⟨q1, q2, q3⟩ := h.ne.1
      refine ⟨_, _, store_good h.f x i hG kr row, ⟨?_, hput, h.lo⟩, Kp.refl.set hkv, hp, fun z => pt_same z⟩
      have R := h.r
      exact ⟨by rw [List.getElem?_set_ne q1]; exact R.r, by rw [List.getElem?_set_ne q2]; exact R.e, ⟨by rw [List.getElem?_set_ne q3]; exact R.w.c, R.w.g, R.w.n⟩, R.d1, R.d2, R.d3, R.n⟩
    · rename_i hG
      obtain ⟨m', h1, h2, h3⟩ := flt_ok h (by decide +kernel) ht hn
      exact ⟨m', vd, store_range h.f x i (by simpa using hG) row h1 (run_no h.r).1, h2, h3, by omega, fun _ => rfl⟩
end Lk13



namespace Lk13
open PySem L2 M
/-! plain statements -/
theorem let_ok {ca : Nat → Addr} {n0 : Nat} {m : List Cell} {kr ke kw : Nat} {O : M.D} {pl : List At} {kf kv kg : Nat} {w w' : Wo} {o : Option Out} {vd gd : List (Key × M.D)} (h : WAt ca n0 m kr ke kw O pl kf kv kg w vd gd) {row : Int} {x : Str} {e : Ex} {r : Option Int} (he : evE w.V e = some r) (hd : dpE e ≤ 8) (ht : sto pl w row x r = some (w', o)) (hn : w'.L.evs.length ≤ 900000) (hl : vd.length < 100000) :
    ∃ m' vd', f_do_let ca [.ref kr, .ref kf, encS (.let_ row x none e)] m = some (encO o, m') ∧ WAt ca n0 m' kr ke kw O pl kf kv kg w' vd' gd ∧ Kp n0 [kr, ke, kw] m m' ∧ vd'.length ≤ vd.length + 1 ∧ ((lkK vd (.inr x)).isSome = true → vd'.length = vd.length) := by
  obtain ⟨m', vd', h1, h2, h3, h4, h5⟩ := sto_ok h ht hn hl
  refine ⟨m', vd', ?_, h2, h3, h4, h5⟩
  have hv := value_ok w.V m kv vd h.f.v h.f.vr e 8 r hd he
  have hff := h.f.f
  have hve := fun S0 => vw_E S0 e
  have hvo := fun S0 => vw_oZ S0 r
  rw [show encS (.let_ row x none e) = .tup [.str "let", .int row, .str x, .non, .non, encE e] by simp [encS, oLo, oHi]]
  generalize encE e = E at *
  generalize oZ r = RZ at *
  unfold f_do_let b_do_let
  generalize f_store ca = fs at *
  generalize f_value_of 8 = fv at *
  simp [fnM_ap, atI, ixN, hff, hv, hve, hvo, h1]
noncomputable def resP (pl : List At) (w : Wo) (row : Int) (isA : Bool) (r : Option Int) : Option (Wo × Option Out) := match r with
  | none => flt pl w row "index"
  | some v => some (w, some (if isA then .answer v else .ret v))
def encR (isA : Bool) (row : Int) (e : Ex) : M.D := if isA then encS (.answer_ row e) else encS (.return_ row e)
theorem result_ok {ca : Nat → Addr} {n0 : Nat} {m : List Cell} {kr ke kw : Nat} {O : M.D} {pl : List At} {kf kv kg : Nat} {w w' : Wo} {o : Option Out} {vd gd : List (Key × M.D)} (h : WAt ca n0 m kr ke kw O pl kf kv kg w vd gd) {row : Int} {isA : Bool} {e : Ex} {r : Option Int} (he : evE w.V e = some r) (hd : dpE e ≤ 8) (ht : resP pl w row isA r = some (w', o)) (hn : w'.L.evs.length ≤ 900000) :
    ∃ m', f_do_result ca [.ref kr, .ref kf, encR isA row e] m = some (encO o, m') ∧ WAt ca n0 m' kr ke kw O pl kf kv kg w' vd gd ∧ Kp n0 [kr, ke, kw] m m' := by
  have hv := value_ok w.V m kv vd h.f.v h.f.vr e 8 r hd he
  have hff := h.f.f
  have hve := fun S0 => vw_E S0 e
  obtain ⟨fs, s1, s2⟩ := (run_no h.r).1
  have hst : ∃ t : Str, encR isA row e = .tup [.str t, .int row, encE e] ∧ t = if isA then "answer" else "return" := by
    cases isA <;> exact ⟨_, rfl, rfl⟩
  obtain ⟨t, e1, e2⟩ := hst
  rw [e1]
  generalize encE e = E at *
  unfold f_do_result b_do_result
  cases r with
  | none =>
    obtain ⟨m', h1, h2, h3⟩ := flt_ok h (by decide +kernel) ht hn
    refine ⟨m', ?_, h2, h3⟩
    simp only [oZ] at hv
    generalize f_value_of 8 = fv at *
    generalize f_Run_fault ca = fr at *
    simp [fnM_ap, atI, ixN, hff, hv, hve, s1, s2, h1]
  | some v =>
    cases ht
    refine ⟨m, ?_, h, Kp.refl⟩
    have ho : encO (some (if isA = true then .answer v else .ret v)) = .tup [.str t, .int v] := by
      rw [e2]; cases isA <;> rfl
    rw [ho]
    simp only [oZ] at hv
    generalize f_value_of 8 = fv at *
    generalize f_Run_fault ca = fr at *
    simp [fnM_ap, atI, ixN, hff, hv, hve]
end Lk13



namespace Lk13
open PySem L2 M
/-! statements that are no blocks -/
noncomputable def chkP (pl : List At) (w : Wo) (row : Int) (c : Cn) : Option (Wo × Option Out) := (askP pl w row c).bind fun p => match p.2 with
  | none => flt pl p.1 row "index"
  | some false => flt pl p.1 row "check"
  | some true => some (p.1, none)
theorem check_ok {ca : Nat → Addr} {n0 : Nat} {m : List Cell} {kr ke kw : Nat} {O : M.D} {pl : List At} {kf kv kg : Nat} {w w' : Wo} {o : Option Out} {vd gd : List (Key × M.D)} (h : WAt ca n0 m kr ke kw O pl kf kv kg w vd gd) {row : Int} {c : Cn} (hd : dpC c ≤ 8) (ht : chkP pl w row c = some (w', o)) (hn : ∀ w1 r, askP pl w row c = some (w1, r) → w1.L.evs.length ≤ 900000) (hn1 : w'.L.evs.length ≤ 900000) (hn2 : w.L.evs.length ≤ 800000) :
    ∃ m', f_do_check ca [.ref kr, .ref kf, encS (.check_ row c)] m = some (encO o, m') ∧ WAt ca n0 m' kr ke kw O pl kf kv kg w' vd gd ∧ Kp n0 [kr, ke, kw] m m' := by
  unfold chkP at ht
  cases e1 : askP pl w row c with
  | none => rw [e1] at ht; cases ht
  | some p =>
    obtain ⟨w1, r⟩ := p
    rw [e1] at ht
    simp only [Option.bind_some] at ht
    obtain ⟨m1, h1, a1, k1⟩ := ask_ok h (tag := "check") (rest := []) hd e1 (hn _ _ e1) hn2
    rw [show encS (.check_ row c) = .tup [.str "check", .int row, encC c] from by simp [encS]]
    obtain ⟨fs, s1, s2⟩ := (run_no a1.r).1
    have hff := a1.f.f
    generalize encC c = C at *
    unfold f_do_check b_do_check t_do_check_2 t_do_check_1
    generalize f_ask ca = fa at *
    cases r with
    | none =>
      obtain ⟨m2, h2, a2, k2⟩ := flt_ok a1 (by decide +kernel) ht hn1
      refine ⟨m2, ?_, a2, k1.trans k2⟩
      simp only [oB] at h1
      generalize f_Run_fault ca = fr at *
      simp [fnM_ap, atI, ixN, h1, hff, s1, s2, h2]
    | some b =>
      cases b with
      | false =>
        obtain ⟨m2, h2, a2, k2⟩ := flt_ok a1 (by decide +kernel) ht hn1
        refine ⟨m2, ?_, a2, k1.trans k2⟩
        simp only [oB] at h1
        generalize f_Run_fault ca = fr at *
        simp [fnM_ap, atI, ixN, h1, hff, s1, s2, h2]
      | true =>
        cases ht
        refine ⟨m1, ?_, a1, k1⟩
        simp only [oB] at h1
        generalize f_Run_fault ca = fr at *
        simp [fnM_ap, atI, ixN, h1, encO]
end Lk13



namespace Lk13
open PySem L2 M
/-! do_plain -/
theorem ne_kind : ¬ ("set" : Str) = "let" ∧ ¬ ("set" : Str) = "list" ∧ ¬ ("refuse" : Str) = "let" ∧ ¬ ("refuse" : Str) = "list" ∧ ¬ ("refuse" : Str) = "set" ∧ ¬ ("refuse" : Str) = "put" ∧ ¬ ("skip" : Str) = "let" ∧ ¬ ("skip" : Str) = "list" ∧ ¬ ("skip" : Str) = "set" ∧ ¬ ("skip" : Str) = "put" ∧ ¬ ("skip" : Str) = "refuse" ∧ ¬ ("answer" : Str) = "let" ∧ ¬ ("answer" : Str) = "list" ∧ ¬ ("answer" : Str) = "set" ∧ ¬ ("answer" : Str) = "put" ∧ ¬ ("answer" : Str) = "refuse" ∧ ¬ ("answer" : Str) = "skip" ∧ ¬ ("return" : Str) = "let" ∧ ¬ ("return" : Str) = "list" ∧ ¬ ("return" : Str) = "set" ∧ ¬ ("return" : Str) = "put" ∧ ¬ ("return" : Str) = "refuse" ∧ ¬ ("return" : Str) = "skip" := by decide +kernel
theorem plain_set {ca : Nat → Addr} {n0 : Nat} {m : List Cell} {kr ke kw : Nat} {O : M.D} {pl : List At} {kf kv kg : Nat} {w w' : Wo} {o : Option Out} {vd gd : List (Key × M.D)} (h : WAt ca n0 m kr ke kw O pl kf kv kg w vd gd) {row : Int} {x : Str} {e : Ex} {r : Option Int} (he : evE w.V e = some r) (hd : dpE e ≤ 8) (ht : sto pl w row x r = some (w', o)) (hn : w'.L.evs.length ≤ 900000) (hl : vd.length < 100000) :
    ∃ m' vd', f_do_plain ca [.ref kr, .ref kf, encS (.set_ row x e)] m = some (encO o, m') ∧ WAt ca n0 m' kr ke kw O pl kf kv kg w' vd' gd ∧ Kp n0 [kr, ke, kw] m m' ∧ vd'.length ≤ vd.length + 1 ∧ ((lkK vd (.inr x)).isSome = true → vd'.length = vd.length) := by
  obtain ⟨m', vd', h1, h2, h3, h4, h5⟩ := sto_ok h ht hn hl
  refine ⟨m', vd', ?_, h2, h3, h4, h5⟩
  have hv := value_ok w.V m kv vd h.f.v h.f.vr e 8 r hd he
  have hff := h.f.f
  have hve := fun S0 => vw_E S0 e
  have hvo := fun S0 => vw_oZ S0 r
  obtain ⟨n1, n2, _⟩ := ne_kind
  rw [show encS (.set_ row x e) = .tup [.str "set", .int row, .str x, encE e] from by simp [encS]]
  generalize encE e = E at *
  generalize oZ r = RZ at *
  unfold f_do_plain b_do_plain t_do_plain_6 t_do_plain_5 t_do_plain_4
  generalize t_do_plain_3 ca = tl
  generalize f_store ca = fs at *
  generalize f_value_of 8 = fv at *
  revert tl; refine opq ?_; intro tl
  simp [fnM_ap, atI, ixN, n1, n2, hff, hv, hve, hvo, h1]
theorem plain_let {ca : Nat → Addr} {m m' : List Cell} {kr kf : Nat} {row : Int} {x : Str} {g : Option (Int × Int)} {e : Ex} {d : M.D} (h : f_do_let ca [.ref kr, .ref kf, encS (.let_ row x g e)] m = some (d, m')) : f_do_plain ca [.ref kr, .ref kf, encS (.let_ row x g e)] m = some (d, m') := by
  have hs : encS (.let_ row x g e) = .tup [.str "let", .int row, .str x, oLo g, oHi g, encE e] := by simp [encS]
  rw [hs] at h ⊢
  generalize encE e = E at *
  generalize oLo g = A at *
  generalize oHi g = B at *
  unfold f_do_plain b_do_plain t_do_plain_6
  generalize t_do_plain_5 ca = tl
  generalize f_do_let ca = fs at *
  revert tl; refine opq ?_; intro tl
  simp [fnM_ap, atI, ixN, h]
theorem plain_res {ca : Nat → Addr} {m m' : List Cell} {kr kf : Nat} {row : Int} {isA : Bool} {e : Ex} {d : M.D} (h : f_do_result ca [.ref kr, .ref kf, encR isA row e] m = some (d, m')) : f_do_plain ca [.ref kr, .ref kf, encR isA row e] m = some (d, m') := by
  have hst : ∃ t : Str, encR isA row e = .tup [.str t, .int row, encE e] ∧ ¬ t = "let" ∧ ¬ t = "list" ∧ ¬ t = "set" ∧ ¬ t = "put" ∧ ¬ t = "refuse" ∧ ¬ t = "skip" := by
    cases isA
    · exact ⟨_, rfl, by decide +kernel⟩
    · exact ⟨_, rfl, by decide +kernel⟩
  obtain ⟨t, hs, n1, n2, n3, n4, n5, n6⟩ := hst
  rw [hs] at h ⊢
  generalize encE e = E at *
  unfold f_do_plain b_do_plain t_do_plain_6 t_do_plain_5 t_do_plain_4 t_do_plain_3 t_do_plain_2 t_do_plain_1
  generalize f_do_result ca = fs at *
  simp [fnM_ap, atI, ixN, n1, n2, n3, n4, n5, n6, h]
theorem plain_skip {ca : Nat → Addr} {m : List Cell} {kr kf : Nat} {row : Int} : f_do_plain ca [.ref kr, .ref kf, encS (.skip_ row)] m = some (.non, m) := by
  have hn : ¬ ("skip" : Str) = "let" ∧ ¬ ("skip" : Str) = "list" ∧ ¬ ("skip" : Str) = "set" ∧ ¬ ("skip" : Str) = "put" ∧ ¬ ("skip" : Str) = "refuse" := by decide +kernel
  obtain ⟨n1, n2, n3, n4, n5⟩ := hn
  rw [show encS (.skip_ row) = .tup [.str "skip", .int row] from by simp [encS]]
  unfold f_do_plain b_do_plain t_do_plain_6 t_do_plain_5 t_do_plain_4 t_do_plain_3 t_do_plain_2 t_do_plain_1
  simp [fnM_ap, atI, ixN, n1, n2, n3, n4, n5]
end Lk13



namespace Lk13
open PySem L2 M
/-! all plain statements -/
open Classical in
noncomputable def setG (G : Str → Option (Int × Int)) (x : Str) (p : Int × Int) : Str → Option (Int × Int) := fun y => if y = x then some p else G y
theorem RunAt.same {ca : Nat → Addr} {m m' : List Cell} {kr ke kw : Nat} {O : M.D} {pl : List At} {L : Lg} (h : RunAt ca m kr ke kw O pl L) (h1 : m'[kr]? = m[kr]?) (h2 : m'[ke]? = m[ke]?) (h3 : m'[kw]? = m[kw]?) : RunAt ca m' kr ke kw O pl L :=
  ⟨h1.trans h.r, h2.trans h.e, ⟨h3.trans h.w.c, h.w.g, h.w.n⟩, h.d1, h.d2, h.d3, h.n⟩
theorem RunAt.bnd {ca : Nat → Addr} {m : List Cell} {kr ke kw : Nat} {O : M.D} {pl : List At} {L : Lg} (h : RunAt ca m kr ke kw O pl L) : kr < m.length ∧ ke < m.length ∧ kw < m.length :=
  ⟨(List.getElem?_eq_some_iff.mp h.r).1, (List.getElem?_eq_some_iff.mp h.e).1, (List.getElem?_eq_some_iff.mp h.w.c).1⟩
theorem FrameAt.putG {ca : Nat → Addr} {n0 : Nat} {m : List Cell} {S : List Nat} {kf kv kg : Nat} {V : Vs} {G : Str → Option (Int × Int)} {vd gd : List (Key × M.D)} (h : FrameAt ca n0 m S kf kv kg V G vd gd) (x : Str) (p : Int × Int) (hl : (ptK gd (.inr x) (.tup [.int p.1, .int p.2])).length ≤ 100000) : FrameAt ca n0 (m.set kg (.dct (ptK gd (.inr x) (.tup [.int p.1, .int p.2])))) S kf kv kg V (setG G x p) vd (ptK gd (.inr x) (.tup [.int p.1, .int p.2])) := by
  have hkg : kg < m.length := (List.getElem?_eq_some_iff.mp h.g).1
  refine ⟨by rw [List.getElem?_set_ne (Ne.symm h.d2)]; exact h.f, by rw [List.getElem?_set_ne (Ne.symm h.d3)]; exact h.v, fun y => ?_, h.vl, List.getElem?_set_self hkg, fun y => ?_, hl, h.ap, h.inj, h.mem, h.lo, h.nb, h.d1, h.d2, h.d3, fun y k e => by rw [List.length_set]; exact h.hi y k e⟩
  · have hy := h.vr y
    cases hv : V y with
    | none => rw [hv] at hy; exact hy
    | some w =>
      rw [hv] at hy
      cases w with
      | int j => exact hy
      | lst l =>
        obtain ⟨h1, k, h2, h3⟩ := hy
        refine ⟨h1, k, h2, ?_⟩
        rw [List.getElem?_set_ne (fun z => h.ap _ _ h2 (by rw [← z]; exact h.mem.2.2))]
        exact h3
  · unfold setG
    rw [lk_pt]
    by_cases q : y = x
    · subst q; rw [if_pos rfl, if_pos rfl]; rfl
    · rw [if_neg q, if_neg (fun z => q (Sum.inr.inj z))]; exact h.gr y
theorem FrameAt.putL {ca : Nat → Addr} {n0 : Nat} {m : List Cell} {S : List Nat} {kf kv kg : Nat} {V : Vs} {G : Str → Option (Int × Int)} {vd gd : List (Key × M.D)} (h : FrameAt ca n0 m S kf kv kg V G vd gd) (x : Str) (l : List Int) (hL : l.length ≤ 1000) (hS : ∀ k ∈ S, k < m.length) (hl : (ptK vd (.inr x) (.ref m.length)).length ≤ 100000) : FrameAt ca n0 ((m ++ [Cell.lst (I l)]).set kv (.dct (ptK vd (.inr x) (.ref m.length)))) S kf kv kg (setV V x (.lst l)) G (ptK vd (.inr x) (.ref m.length)) gd := by
  have hkv : kv < m.length := (List.getElem?_eq_some_iff.mp h.v).1
  have hkf : kf < m.length := (List.getElem?_eq_some_iff.mp h.f).1
  have hkg : kg < m.length := (List.getElem?_eq_some_iff.mp h.g).1
  have old : ∀ k, k < m.length → k ≠ kv → ((m ++ [Cell.lst (I l)]).set kv (.dct (ptK vd (.inr x) (.ref m.length))))[k]? = m[k]? := fun k hk hne => by
    rw [List.getElem?_set_ne (Ne.symm hne), List.getElem?_append_left hk]
  refine ⟨by rw [old _ hkf h.d1]; exact h.f, List.getElem?_set_self (by simp; omega), fun y => ?_, hl, by rw [old _ hkg (Ne.symm h.d3)]; exact h.g, h.gr, h.gl, fun y k e => ?_, fun y z k e1 e2 => ?_, h.mem, fun y k e => ?_, h.nb, h.d1, h.d2, h.d3, fun y k e => ?_⟩
  · unfold setV
    by_cases q : y = x
    · subst q
      rw [if_pos rfl]
      refine ⟨hL, m.length, by rw [lk_pt, if_pos rfl], ?_⟩
      rw [List.getElem?_set_ne (by omega)]
      simp
    · rw [if_neg q]
      have hne : ¬ (Sum.inr y : Key) = .inr x := fun z => q (Sum.inr.inj z)
      have hy := h.vr y
      cases hv : V y with
      | none =>
        rw [hv] at hy
        show lkK _ _ = _
        rw [lk_pt, if_neg hne]; exact hy
      | some w =>
        rw [hv] at hy
        cases w with
        | int j =>
          show lkK _ _ = _
          rw [lk_pt, if_neg hne]; exact hy
        | lst l' =>
          obtain ⟨h1, k, h2, h3⟩ := hy
          refine ⟨h1, k, by rw [lk_pt, if_neg hne]; exact h2, ?_⟩
          rw [old k (h.hi _ _ h2) (fun z => h.ap _ _ h2 (by rw [z]; exact h.mem.2.1))]
          exact h3
  · rw [lk_pt] at e
    split at e
    · cases e; exact fun z => by have := hS _ z; omega
    · exact h.ap _ _ e
  · rw [lk_pt] at e1 e2
    split at e1
    · rename_i a
      cases e1
      split at e2
      · rename_i b; rw [a, b]
      · have := h.hi _ _ e2; omega
    · split at e2
      · cases e2; have := h.hi _ _ e1; omega
      · exact h.inj _ _ _ e1 e2
  · rw [lk_pt] at e
    split at e
    · cases e; have := h.nb.1; omega
    · exact h.lo _ _ e
  · rw [lk_pt] at e
    rw [List.length_set, List.length_append, List.length_singleton]
    split at e
    · cases e; omega
    · have := h.hi _ _ e; omega
theorem FrameAt.putI {ca : Nat → Addr} {n0 : Nat} {m : List Cell} {S : List Nat} {kf kv kg : Nat} {V : Vs} {G : Str → Option (Int × Int)} {vd gd : List (Key × M.D)} (h : FrameAt ca n0 m S kf kv kg V G vd gd) {x : Str} {k : Nat} (hk : lkK vd (.inr x) = some (.ref k)) {l : List Int} (hL : l.length ≤ 1000) : FrameAt ca n0 (m.set k (.lst (I l))) S kf kv kg (setV V x (.lst l)) G vd gd := by
  have hkl := h.hi _ _ hk
  have hkS := h.ap _ _ hk
  have nf : k ≠ kf := fun z => hkS (z ▸ h.mem.1)
  have nv : k ≠ kv := fun z => hkS (z ▸ h.mem.2.1)
  have ng : k ≠ kg := fun z => hkS (z ▸ h.mem.2.2)
  refine ⟨by rw [List.getElem?_set_ne nf]; exact h.f, by rw [List.getElem?_set_ne nv]; exact h.v, fun y => ?_, h.vl, by rw [List.getElem?_set_ne ng]; exact h.g, h.gr, h.gl, h.ap, h.inj, h.mem, h.lo, h.nb, h.d1, h.d2, h.d3, fun y k e => by rw [List.length_set]; exact h.hi y k e⟩
  unfold setV
  by_cases q : y = x
  · subst q
    rw [if_pos rfl]
    exact ⟨hL, k, hk, List.getElem?_set_self hkl⟩
  · rw [if_neg q]
    have hy := h.vr y
    cases hv : V y with
    | none => rw [hv] at hy; exact hy
    | some w =>
      rw [hv] at hy
      cases w with
      | int j => exact hy
      | lst l' =>
        obtain ⟨h1, k', h2, h3⟩ := hy
        refine ⟨h1, k', h2, ?_⟩
        rw [List.getElem?_set_ne (fun z => q (Sum.inr.inj (h.inj _ _ _ h2 (hk.trans (by rw [z])))))]
        exact h3
theorem WAt.mono {ca : Nat → Addr} {n0 : Nat} {m : List Cell} {kr ke kw : Nat} {O : M.D} {pl : List At} {kf kv kg : Nat} {w : Wo} {vd gd : List (Key × M.D)} (h : WAt ca n0 m kr ke kw O pl kf kv kg w vd gd) : (∀ k ∈ [kr, ke, kw, kf, kv, kg], k < m.length) ∧ n0 ≤ m.length := by
  obtain ⟨a, b, c⟩ := h.r.bnd
  have d := (List.getElem?_eq_some_iff.mp h.f.f).1
  have e := (List.getElem?_eq_some_iff.mp h.f.v).1
  have f := (List.getElem?_eq_some_iff.mp h.f.g).1
  refine ⟨fun k hk => ?_, by have := h.f.nb.1; omega⟩
  simp only [List.mem_cons, List.not_mem_nil, or_false] at hk
  rcases hk with rfl | rfl | rfl | rfl | rfl | rfl <;> assumption
section
variable (pl : List At)
noncomputable def plnP (w : Wo) : Sm → Option (Wo × Option Out)
  | .let_ row x g e => if dpE e ≤ 8 then (evE w.V e).bind fun r => sto pl (match g with
    | none => w
    | some p => { w with G := setG w.G x p }) row x r else none
  | .list_ row x n e => if dpE e ≤ 8 ∧ n ≤ 1000 then (evE w.V e).bind fun r => match r with
    | none => flt pl w row "index"
    | some v => some ({ w with V := setV w.V x (.lst (List.replicate n v)) }, none) else none
  | .set_ row x e => if dpE e ≤ 8 then (evE w.V e).bind fun r => sto pl w row x r else none
  | .put_ row x i e => if dpE i ≤ 8 ∧ dpE e ≤ 8 then match w.V x, evE w.V i, evE w.V e with
    | some (.lst l), some (some j), some (some v) => if 0 ≤ j ∧ j < l.length then some ({ w with V := setV w.V x (.lst (l.set j.toNat v)) }, none) else flt pl w row "index"
    | some (.lst l), some (some j), some none => flt pl w row "index"
    | _, _, _ => none else none
  | .refuse_ row z => if PyData.strOk z = true then flt pl w row z else none
  | .skip_ _ => some (w, none)
  | .answer_ row e => if dpE e ≤ 8 then (evE w.V e).bind fun r => resP pl w row true r else none
  | .return_ row e => if dpE e ≤ 8 then (evE w.V e).bind fun r => resP pl w row false r else none
  | _ => none
end
end Lk13



namespace Lk13
open PySem L2 M
/-! each plain statement answers so -/
def Did (ca : Nat → Addr) (n0 : Nat) (m : List Cell) (kr ke kw : Nat) (O : M.D) (pl : List At) (kf kv kg : Nat) (nv ng : Nat) (w' : Wo) (o : Option Out) (call : Option (M.D × List Cell)) : Prop :=
  ∃ m' vd' gd', call = some (encO o, m') ∧ WAt ca n0 m' kr ke kw O pl kf kv kg w' vd' gd' ∧ Kp n0 [kr, ke, kw] m m' ∧ vd'.length ≤ nv ∧ gd'.length ≤ ng
section
variable {ca : Nat → Addr} {n0 : Nat} {m : List Cell} {kr ke kw : Nat} {O : M.D} {pl : List At} {kf kv kg : Nat} {w w' : Wo} {o : Option Out} {vd gd : List (Key × M.D)}
theorem let_okG (h : WAt ca n0 m kr ke kw O pl kf kv kg w vd gd) {row : Int} {x : Str} {p : Int × Int} {e : Ex} {r : Option Int} (he : evE w.V e = some r) (hd : dpE e ≤ 8) (ht : sto pl { w with G := setG w.G x p } row x r = some (w', o)) (hn : w'.L.evs.length ≤ 900000) (hl : vd.length < 100000) (hlg : gd.length < 100000) :
    Did ca n0 m kr ke kw O pl kf kv kg (vd.length + 1) (gd.length + 1) w' o (f_do_let ca [.ref kr, .ref kf, encS (.let_ row x (some p) e)] m) := by
  have hpt := pt_len (kds := gd) (k := .inr x) (d := .tup [.int p.1, .int p.2])
  obtain ⟨q1, q2, q3⟩ := h.lo
  obtain ⟨b1, b2, b3⟩ := h.f.nb
  have h2 : WAt ca n0 (m.set kg (.dct (ptK gd (.inr x) (.tup [.int p.1, .int p.2])))) kr ke kw O pl kf kv kg { w with G := setG w.G x p } vd (ptK gd (.inr x) (.tup [.int p.1, .int p.2])) :=
    ⟨h.r.same (List.getElem?_set_ne (by omega)) (List.getElem?_set_ne (by omega)) (List.getElem?_set_ne (by omega)), h.f.putG x p (by omega), h.lo⟩
  obtain ⟨m', vd', h1, h3, h4, h5, h6⟩ := sto_ok h2 ht hn hl
  refine ⟨m', vd', _, ?_, h3, (Kp.refl.set b3).trans h4, h5, hpt⟩
  have hv := value_ok w.V _ kv vd h2.f.v h2.f.vr e 8 r hd he
  have hff := h.f.f
  have hgg := h.f.g
  have hff2 := h2.f.f
  have hlim : gd.length < 1000000 := by omega
  have hve := fun S0 => vw_E S0 e
  have hvo := fun S0 => vw_oZ S0 r
  rw [show encS (.let_ row x (some p) e) = .tup [.str "let", .int row, .str x, .int p.1, .int p.2, encE e] by simp [encS, oLo, oHi]]
  generalize p.1 = lo at *
  generalize p.2 = hi at *
  generalize encE e = E at *
  generalize oZ r = RZ at *
  unfold f_do_let b_do_let
  generalize f_store ca = fs at *
  generalize f_value_of 8 = fv at *
  simp [fnM_ap, atI, ixN, hff, hgg, hff2, hv, hve, hvo, h1, ne_fr, hlim]
theorem list_ok (h : WAt ca n0 m kr ke kw O pl kf kv kg w vd gd) {row : Int} {x : Str} {n : Nat} {e : Ex} (ht : plnP pl w (.list_ row x n e) = some (w', o)) (hn : w'.L.evs.length ≤ 900000) (hl : vd.length < 100000) :
    Did ca n0 m kr ke kw O pl kf kv kg (vd.length + 1) gd.length w' o (f_do_list ca [.ref kr, .ref kf, encS (.list_ row x n e)] m) := by
  simp only [plnP] at ht
  split at ht
  · rename_i hd
    cases he : evE w.V e with
    | none => rw [he] at ht; cases ht
    | some r =>
      rw [he] at ht
      simp only [Option.bind_some] at ht
      have hv := value_ok w.V m kv vd h.f.v h.f.vr e 8 r hd.1 he
      have hff := h.f.f
      have hvv := h.f.v
      have hve := fun S0 => vw_E S0 e
      obtain ⟨fs, s1, s2⟩ := (run_no h.r).1
      rw [show encS (.list_ row x n e) = .tup [.str "list", .int row, .str x, .int (n : Int), encE e] by simp [encS]]
      generalize encE e = E at *
      unfold f_do_list b_do_list t_do_list_2 t_do_list_1
      cases r with
      | none =>
        simp only at ht
        obtain ⟨m', h1, h2, h3⟩ := flt_ok h (by decide +kernel) ht hn
        refine ⟨m', vd, gd, ?_, h2, h3, by omega, by omega⟩
        simp only [oZ] at hv
        generalize f_value_of 8 = fv at *
        generalize f_Run_fault ca = fr at *
        simp [fnM_ap, atI, ixN, hff, hv, hve, s1, s2, h1]
      | some v =>
        cases ht
        obtain ⟨b1, b2⟩ := h.mono
        have hpt := pt_len (kds := vd) (k := .inr x) (d := .ref m.length)
        have hkv : kv < m.length := (List.getElem?_eq_some_iff.mp h.f.v).1
        have hkf : kf < m.length := (List.getElem?_eq_some_iff.mp h.f.f).1
        have hput := h.f.putL x (List.replicate n v) (by simpa using hd.2) b1 (by omega)
        obtain ⟨q1, q2, q3⟩ := h.lo
        obtain ⟨c1, c2, c3⟩ := h.f.nb
        have old : ∀ k, k < m.length → k ≠ kv → ((m ++ [Cell.lst (I (List.replicate n v))]).set kv (.dct (ptK vd (.inr x) (.ref m.length))))[k]? = m[k]? := fun k hk hne => by
          rw [List.getElem?_set_ne (Ne.symm hne), List.getElem?_append_left hk]
        obtain ⟨z1, z2, z3⟩ := h.r.bnd
        refine ⟨_, _, gd, ?_, ⟨h.r.same (old _ z1 (by omega)) (old _ z2 (by omega)) (old _ z3 (by omega)), hput, h.lo⟩, Kp.refl.app.set c2, hpt, by omega⟩
        simp only [oZ] at hv
        have hlim : vd.length < 1000000 := by omega
        have hff' : (m ++ [Cell.lst (I (List.replicate n v))])[kf]? = some (.obj (ca 6) [("variables", .ref kv), ("ranges", .ref kg)]) := by rw [List.getElem?_append_left hkf]; exact hff
        have hvv' : (m ++ [Cell.lst (I (List.replicate n v))])[kv]? = some (.dct vd) := by rw [List.getElem?_append_left hkv]; exact hvv
        have hrep : (List.replicate n [M.D.int v]).flatten = I (List.replicate n v) := by
          induction n with
          | zero => rfl
          | succ n ih => simp [List.replicate_succ, I]
        have hn1 : (n : Int) ≤ 1048576 := by omega
        have hn2 : n ≤ 1000000 := by omega
        have hn3 : (-1048576 : Int) ≤ n := by omega
        generalize I (List.replicate n v) = RP at *
        generalize f_value_of 8 = fv at *
        generalize f_Run_fault ca = fr at *
        simp [fnM_ap, atI, ixN, hff, hv, hve, hff', hvv', hlim, hrep, hn1, hn2, hn3, encO]
  · cases ht
theorem put_ok (h : WAt ca n0 m kr ke kw O pl kf kv kg w vd gd) {row : Int} {x : Str} {i e : Ex} (ht : plnP pl w (.put_ row x i e) = some (w', o)) (hn : w'.L.evs.length ≤ 900000) :
    Did ca n0 m kr ke kw O pl kf kv kg vd.length gd.length w' o (f_do_put ca [.ref kr, .ref kf, encS (.put_ row x i e)] m) := by
  simp only [plnP] at ht
  split at ht
  · rename_i hd
    have hx := h.f.vr x
    cases hvx : w.V x with
    | none => rw [hvx] at ht; cases ht
    | some vx =>
      cases vx with
      | int z => rw [hvx] at ht; cases ht
      | lst l =>
        rw [hvx] at ht hx
        obtain ⟨hL, k, hk1, hk2⟩ := hx
        cases hei : evE w.V i with
        | none => rw [hei] at ht; cases ht
        | some ri =>
          cases ri with
          | none => rw [hei] at ht; cases ht
          | some j =>
            rw [hei] at ht
            cases hee : evE w.V e with
            | none => rw [hee] at ht; cases ht
            | some re =>
              rw [hee] at ht
              have hvi := value_ok w.V m kv vd h.f.v h.f.vr i 8 (some j) hd.1 hei
              simp only [oZ] at hvi
              have hve := value_ok w.V m kv vd h.f.v h.f.vr e 8 re hd.2 hee
              have hff := h.f.f
              have hvv := h.f.v
              have vi := fun S0 => vw_E S0 i
              have ve := fun S0 => vw_E S0 e
              have vo := fun S0 => vw_oZ S0 re
              obtain ⟨fs, s1, s2⟩ := (run_no h.r).1
              have hll : (I l).length = l.length := by simp [I]
              have hbad : (¬ (0 ≤ j ∧ j < l.length) ∨ re = none) → flt pl w row "index" = some (w', o) → Did ca n0 m kr ke kw O pl kf kv kg vd.length gd.length w' o (f_do_put ca [.ref kr, .ref kf, encS (.put_ row x i e)] m) := fun hb ht => by
                obtain ⟨m', h1, h2, h3⟩ := flt_ok h (by decide +kernel) ht hn
                refine ⟨m', vd, gd, ?_, h2, h3, by omega, by omega⟩
                rw [show encS (.put_ row x i e) = .tup [.str "put", .int row, .str x, encE i, encE e] by simp [encS]]
                generalize encE e = E at *
                generalize encE i = EI at *
                unfold f_do_put b_do_put t_do_put_4 t_do_put_3 t_do_put_2
                generalize t_do_put_1 ca = tl
                generalize f_value_of 8 = fv at *
                generalize f_Run_fault ca = fr at *
                revert tl; refine opq ?_; intro tl
                by_cases c : 0 ≤ j ∧ j < l.length
                · rcases hb with hb | hb
                  · exact absurd c hb
                  · subst hb
                    simp only [oZ] at hve
                    simp [fnM_ap, atI, ixN, eChain, hff, hvv, gIxK, keyD, hk1, hk2, hvi, hve, vi, ve, hll, c.1, c.2, s1, s2, h1]
                · generalize oZ re = RE at *
                  by_cases c0 : 0 ≤ j
                  · have c1 : ¬ j < (l.length : Int) := fun z => c ⟨c0, z⟩
                    simp [fnM_ap, atI, ixN, eChain, hff, hvv, gIxK, keyD, hk1, hk2, hvi, hve, vi, ve, vo, hll, c0, c1, s1, s2, h1]
                  · simp [fnM_ap, atI, ixN, eChain, hff, hvv, gIxK, keyD, hk1, hk2, hvi, hve, vi, ve, vo, hll, c0, s1, s2, h1]
              cases re with
              | none => exact hbad (.inr rfl) ht
              | some v =>
                simp only at ht
                by_cases c : 0 ≤ j ∧ j < l.length
                · rw [if_pos c] at ht
                  cases ht
                  have hput := h.f.putI hk1 (l := l.set j.toNat v) (by simpa using hL)
                  have nk := h.f.lo _ _ hk1
                  obtain ⟨q1, q2, q3⟩ := h.lo
                  refine ⟨_, vd, gd, ?_, ⟨h.r.same (List.getElem?_set_ne (by omega)) (List.getElem?_set_ne (by omega)) (List.getElem?_set_ne (by omega)), hput, h.lo⟩, Kp.refl.set nk, by omega, by omega⟩
                  rw [show encS (.put_ row x i e) = .tup [.str "put", .int row, .str x, encE i, encE e] by simp [encS]]
                  have hset : I (l.set j.toNat v) = (I l).set j.toNat (.int v) := by simp [I, List.map_set]
                  rw [hset]
                  have hix : ixN (I l).length j = some j.toNat := ixN_pos c.1 (by rw [hll]; exact c.2)
                  simp only [oZ] at hve
                  generalize encE e = E at *
                  generalize encE i = EI at *
                  unfold f_do_put b_do_put t_do_put_4 t_do_put_3 t_do_put_2 t_do_put_1
                  generalize f_value_of 8 = fv at *
                  generalize f_Run_fault ca = fr at *
                  generalize I l = IL at *
                  simp [fnM_ap, atI, eChain, hff, hvv, gIxK, keyD, hk1, hk2, hvi, hve, vi, ve, hll, c.1, c.2, hix, encO, ixN]
                · rw [if_neg c] at ht
                  exact hbad (.inl c) ht
  · cases ht
theorem refuse_ok (h : WAt ca n0 m kr ke kw O pl kf kv kg w vd gd) {row : Int} {z : Str} (ht : plnP pl w (.refuse_ row z) = some (w', o)) (hn : w'.L.evs.length ≤ 900000) :
    Did ca n0 m kr ke kw O pl kf kv kg vd.length gd.length w' o (f_do_plain ca [.ref kr, .ref kf, encS (.refuse_ row z)] m) := by
  simp only [plnP] at ht
  split at ht
  · rename_i hz
    obtain ⟨m', h1, h2, h3⟩ := flt_ok h hz ht hn
    refine ⟨m', vd, gd, ?_, h2, h3, by omega, by omega⟩
    have hff := h.f.f
    obtain ⟨fs, s1, s2⟩ := (run_no h.r).1
    obtain ⟨n1, n2, n3, n4, n5, n6, _⟩ := ne_kind
    rw [show encS (.refuse_ row z) = .tup [.str "refuse", .int row, .str z] by simp [encS]]
    unfold f_do_plain b_do_plain t_do_plain_6 t_do_plain_5 t_do_plain_4 t_do_plain_3 t_do_plain_2
    generalize t_do_plain_1 ca = tl
    generalize f_Run_fault ca = fr at *
    revert tl; refine opq ?_; intro tl
    simp [fnM_ap, atI, ixN, n3, n4, n5, n6, hff, s1, s2, h1]
  · cases ht
theorem plain_list {x : Str} {row : Int} {n : Nat} {e : Ex} {d : M.D} {m' : List Cell} (h : f_do_list ca [.ref kr, .ref kf, encS (.list_ row x n e)] m = some (d, m')) : f_do_plain ca [.ref kr, .ref kf, encS (.list_ row x n e)] m = some (d, m') := by
  have hn : ¬ ("list" : Str) = "let" := by decide +kernel
  have hs : encS (.list_ row x n e) = .tup [.str "list", .int row, .str x, .int (n : Int), encE e] := by simp [encS]
  rw [hs] at h ⊢
  generalize encE e = E at *
  unfold f_do_plain b_do_plain t_do_plain_6 t_do_plain_5
  generalize t_do_plain_4 ca = tl
  generalize f_do_list ca = fs at *
  revert tl; refine opq ?_; intro tl
  simp [fnM_ap, atI, ixN, hn, h]
theorem plain_put {x : Str} {row : Int} {i e : Ex} {d : M.D} {m' : List Cell} (h : f_do_put ca [.ref kr, .ref kf, encS (.put_ row x i e)] m = some (d, m')) : f_do_plain ca [.ref kr, .ref kf, encS (.put_ row x i e)] m = some (d, m') := by
  have hn : ¬ ("put" : Str) = "let" ∧ ¬ ("put" : Str) = "list" ∧ ¬ ("put" : Str) = "set" := by decide +kernel
  obtain ⟨n1, n2, n3⟩ := hn
  have hs : encS (.put_ row x i e) = .tup [.str "put", .int row, .str x, encE i, encE e] := by simp [encS]
  rw [hs] at h ⊢
  generalize encE e = E at *
  generalize encE i = EI at *
  unfold f_do_plain b_do_plain t_do_plain_6 t_do_plain_5 t_do_plain_4 t_do_plain_3
  generalize t_do_plain_2 ca = tl
  generalize f_do_put ca = fs at *
  revert tl; refine opq ?_; intro tl
  simp [fnM_ap, atI, ixN, n1, n2, n3, h]
theorem plain_ok (h : WAt ca n0 m kr ke kw O pl kf kv kg w vd gd) {s : Sm} (ht : plnP pl w s = some (w', o)) (hn : w'.L.evs.length ≤ 900000) (hl : vd.length < 100000) (hlg : gd.length < 100000) :
    Did ca n0 m kr ke kw O pl kf kv kg (vd.length + 1) (gd.length + 1) w' o (f_do_plain ca [.ref kr, .ref kf, encS s] m) := by
  cases s with
  | let_ row x g e =>
    simp only [plnP] at ht
    split at ht
    · rename_i hd
      cases he : evE w.V e with
      | none => rw [he] at ht; cases ht
      | some r =>
        rw [he] at ht
        simp only [Option.bind_some] at ht
        cases g with
        | none =>
          obtain ⟨m', vd', h1, h2, h3, h4, h5⟩ := let_ok h he hd ht hn hl
          exact ⟨m', vd', gd, plain_let h1, h2, h3, h4, by omega⟩
        | some p =>
          obtain ⟨m', vd', gd', h1, h2, h3, h4, h5⟩ := let_okG h he hd ht hn hl hlg
          exact ⟨m', vd', gd', plain_let h1, h2, h3, h4, h5⟩
    · cases ht
  | list_ row x n e =>
    obtain ⟨m', vd', gd', h1, h2, h3, h4, h5⟩ := list_ok h ht hn hl
    exact ⟨m', vd', gd', plain_list h1, h2, h3, h4, by omega⟩
  | set_ row x e =>
    simp only [plnP] at ht
    split at ht
    · rename_i hd
      cases he : evE w.V e with
      | none => rw [he] at ht; cases ht
      | some r =>
        rw [he] at ht
        simp only [Option.bind_some] at ht
        obtain ⟨m', vd', h1, h2, h3, h4, h5⟩ := plain_set h he hd ht hn hl
        exact ⟨m', vd', gd, h1, h2, h3, h4, by omega⟩
    · cases ht
  | put_ row x i e =>
    obtain ⟨m', vd', gd', h1, h2, h3, h4, h5⟩ := put_ok h ht hn
    exact ⟨m', vd', gd', plain_put h1, h2, h3, by omega, by omega⟩
  | refuse_ row z =>
    obtain ⟨m', vd', gd', h1, h2, h3, h4, h5⟩ := refuse_ok h ht hn
    exact ⟨m', vd', gd', h1, h2, h3, by omega, by omega⟩
  | skip_ row =>
    simp only [plnP] at ht
    cases ht
    exact ⟨m, vd, gd, plain_skip, h, Kp.refl, by omega, by omega⟩
  | answer_ row e =>
    simp only [plnP] at ht
    split at ht
    · rename_i hd
      cases he : evE w.V e with
      | none => rw [he] at ht; cases ht
      | some r =>
        rw [he] at ht
        simp only [Option.bind_some] at ht
        obtain ⟨m', h1, h2, h3⟩ := result_ok h he hd ht hn
        exact ⟨m', vd, gd, plain_res h1, h2, h3, by omega, by omega⟩
    · cases ht
  | return_ row e =>
    simp only [plnP] at ht
    split at ht
    · rename_i hd
      cases he : evE w.V e with
      | none => rw [he] at ht; cases ht
      | some r =>
        rw [he] at ht
        simp only [Option.bind_some] at ht
        obtain ⟨m', h1, h2, h3⟩ := result_ok h he hd ht hn
        exact ⟨m', vd, gd, plain_res h1, h2, h3, by omega, by omega⟩
    · cases ht
  | call_ row x f as => simp [plnP] at ht
  | if_ row c a b => simp [plnP] at ht
  | while_ row c n b => simp [plnP] at ht
  | check_ row c => simp [plnP] at ht
end
end Lk13



namespace Lk13
open PySem L2 M
/-! events only grow -/
section
variable {pl : List At} {w w' : Wo} {o : Option Out} {row : Int}
theorem tk_evs {e : Ev} (h : tk pl w e = some w') : w'.L.evs = w.L.evs ++ [e] ∧ w'.V = w.V ∧ w'.G = w.G := by
  unfold tk at h
  cases e2 : tick pl w.V w.L e with
  | none => rw [e2] at h; cases h
  | some l =>
    rw [e2] at h
    cases h
    refine ⟨?_, rfl, rfl⟩
    unfold tick at e2
    split at e2
    · cases e2; rfl
    · cases e3 : tru w.V (wants pl[w.L.p]? e) with
      | none => rw [e3] at e2; cases e2
      | some t => rw [e3] at e2; simp only [Option.map_some] at e2; split at e2 <;> (cases e2; rfl)
theorem tk_ge {e : Ev} (h : tk pl w e = some w') : w'.L.evs.length = w.L.evs.length + 1 := by
  rw [(tk_evs h).1]; simp
theorem flt_ge {k : Str} (h : flt pl w row k = some (w', o)) : w'.L.evs.length = w.L.evs.length + 1 := by
  unfold flt at h
  cases e : tk pl w (.fault row k) with
  | none => rw [e] at h; cases h
  | some x => rw [e] at h; cases h; exact tk_ge e
theorem sto_ge {x : Str} {r : Option Int} (h : sto pl w row x r = some (w', o)) : w.L.evs.length ≤ w'.L.evs.length := by
  cases r with
  | none => have := flt_ge h; omega
  | some i =>
    simp only [sto] at h
    split at h
    · cases h; exact Nat.le_refl _
    · have := flt_ge h; omega
theorem ask_ge {c : Cn} {r : Option Bool} (h : askP pl w row c = some (w', r)) : w.L.evs.length + 1 ≤ w'.L.evs.length := by
  unfold askP at h
  cases e : tk pl w (.row row) with
  | none => rw [e] at h; cases h
  | some w1 =>
    rw [e] at h
    simp only [Option.bind_some] at h
    have g := tk_ge e
    cases e2 : evC w1.V c with
    | none => rw [e2] at h; cases h
    | some q =>
      rw [e2] at h
      simp only [Option.bind_some] at h
      cases q with
      | none => cases h; omega
      | some b =>
        cases b with
        | true =>
          simp only at h
          cases e3 : tk pl w1 (.yes row) with
          | none => rw [e3] at h; cases h
          | some w2 => rw [e3] at h; cases h; have := tk_ge e3; omega
        | false =>
          simp only at h
          cases e3 : tk pl w1 (.no row) with
          | none => rw [e3] at h; cases h
          | some w2 => rw [e3] at h; cases h; have := tk_ge e3; omega
theorem res_ge {b : Bool} {r : Option Int} (h : resP pl w row b r = some (w', o)) : w.L.evs.length ≤ w'.L.evs.length := by
  cases r with
  | none => have := flt_ge h; omega
  | some i => cases h; exact Nat.le_refl _
theorem chk_ge {c : Cn} (h : chkP pl w row c = some (w', o)) : ∃ w1 r, askP pl w row c = some (w1, r) ∧ w1.L.evs.length ≤ w'.L.evs.length := by
  unfold chkP at h
  cases e : askP pl w row c with
  | none => rw [e] at h; cases h
  | some p =>
    obtain ⟨w1, r⟩ := p
    rw [e] at h
    simp only [Option.bind_some] at h
    refine ⟨w1, r, rfl, ?_⟩
    cases r with
    | none => have := flt_ge h; omega
    | some b =>
      cases b with
      | true => cases h; exact Nat.le_refl _
      | false => have := flt_ge h; omega
theorem pln_ge {s : Sm} (h : plnP pl w s = some (w', o)) : w.L.evs.length ≤ w'.L.evs.length := by
  cases s with
  | let_ row x g e =>
    simp only [plnP] at h
    split at h
    · cases he : evE w.V e with
      | none => rw [he] at h; cases h
      | some r =>
        rw [he] at h
        have := sto_ge (show sto pl _ row x r = some (w', o) from h)
        cases g <;> exact this
    · cases h
  | list_ row x n e =>
    simp only [plnP] at h
    split at h
    · cases he : evE w.V e with
      | none => rw [he] at h; cases h
      | some r =>
        rw [he] at h
        simp only [Option.bind_some] at h
        cases r with
        | none => have := flt_ge h; omega
        | some v => cases h; exact Nat.le_refl _
    · cases h
  | set_ row x e =>
    simp only [plnP] at h
    split at h
    · cases he : evE w.V e with
      | none => rw [he] at h; cases h
      | some r => rw [he] at h; exact sto_ge (show sto pl _ row x r = some (w', o) from h)
    · cases h
  | put_ row x i e =>
    simp only [plnP] at h
    split at h
    · split at h
      · split at h
        · cases h; exact Nat.le_refl _
        · have := flt_ge h; omega
      · have := flt_ge h; omega
      · cases h
    · cases h
  | refuse_ row z =>
    simp only [plnP] at h
    split at h
    · have := flt_ge h; omega
    · cases h
  | skip_ row => simp only [plnP] at h; cases h; exact Nat.le_refl _
  | answer_ row e =>
    simp only [plnP] at h
    split at h
    · cases he : evE w.V e with
      | none => rw [he] at h; cases h
      | some r => rw [he] at h; exact res_ge (show resP pl _ row true r = some (w', o) from h)
    · cases h
  | return_ row e =>
    simp only [plnP] at h
    split at h
    · cases he : evE w.V e with
      | none => rw [he] at h; cases h
      | some r => rw [he] at h; exact res_ge (show resP pl _ row false r = some (w', o) from h)
    · cases h
  | call_ row x f as => simp [plnP] at h
  | if_ row c a b => simp [plnP] at h
  | while_ row c n b => simp [plnP] at h
  | check_ row c => simp [plnP] at h
end
/-! blocks -/
section
variable (pl : List At) (fns : List Fn)
noncomputable def runL (rec : Wo → Sm → Option (Wo × Option Out)) : Wo → List Sm → Option (Wo × Option Out)
  | w, [] => some (w, none)
  | w, s :: ss => (rec w s).bind fun p => match p.2 with
    | none => runL rec p.1 ss
    | some o => some (p.1, some o)
noncomputable def runW (body : Wo → Option (Wo × Option Out)) (row : Int) (c : Cn) : Nat → Nat → Wo → Option (Wo × Option Out)
  | 0, _, w => (askP pl w row c).bind fun p => match p.2 with
    | none => flt pl p.1 row "index"
    | some false => some (p.1, none)
    | some true => flt pl p.1 row "turns"
  | k + 1, i, w => (askP pl w row c).bind fun p => match p.2 with
    | none => flt pl p.1 row "index"
    | some false => some (p.1, none)
    | some true => (tk pl p.1 (.turn row ((i : Int) + 1))).bind fun w2 => (body w2).bind fun q => match q.2 with
      | none => runW body row c k (i + 1) q.1
      | some o => some (q.1, some o)
def argsP (V : Vs) : List Ex → Option (List Int)
  | [] => some []
  | e :: es => if dpE e ≤ 8 then match evE V e with
    | some (some i) => (argsP V es).map (i :: ·)
    | _ => none else none
noncomputable def parV : Vs → List Str → List Int → Vs
  | V, x :: xs, i :: is => parV (setV V x (.int i)) xs is
  | V, _, _ => V
noncomputable def callP (blk : Wo → List Sm → Option (Wo × Option Out)) (w : Wo) (row : Int) (x f : Str) (as : List Ex) : Option (Wo × Option Out) :=
  match fns.find? (fun g => decide (g.name = f)) with
  | none => none
  | some g => if g.ps.length = as.length ∧ as.length ≤ 900 then (argsP w.V as).bind fun is => (blk ⟨parV (fun _ => none) g.ps is, fun _ => none, w.L⟩ g.body).bind fun p => match p.2 with
    | none => sto pl { w with L := p.1.L } row x (some 0)
    | some (.ret v) => sto pl { w with L := p.1.L } row x (some v)
    | some o => some ({ w with L := p.1.L }, some o)
    else none
def rowS : Sm → Int
  | .let_ r _ _ _ => r
  | .list_ r _ _ _ => r
  | .set_ r _ _ => r
  | .put_ r _ _ _ => r
  | .call_ r _ _ _ => r
  | .if_ r _ _ _ => r
  | .while_ r _ _ _ => r
  | .check_ r _ => r
  | .refuse_ r _ => r
  | .skip_ r => r
  | .answer_ r _ => r
  | .return_ r _ => r
noncomputable def ifP (blk : Wo → List Sm → Option (Wo × Option Out)) (w : Wo) (row : Int) (c : Cn) (a b : List Sm) : Option (Wo × Option Out) :=
  (askP pl w row c).bind fun p => match p.2 with
    | none => flt pl p.1 row "index"
    | some true => blk p.1 a
    | some false => blk p.1 b
noncomputable def stmP (blk : Wo → List Sm → Option (Wo × Option Out)) (w : Wo) : Sm → Option (Wo × Option Out)
  | .while_ row c n b => if dpC c ≤ 8 ∧ n ≤ 1000000 then runW pl (fun w => blk w b) row c n 0 w else none
  | .if_ row c a b => if dpC c ≤ 8 then ifP pl blk w row c a b else none
  | .check_ row c => if dpC c ≤ 8 then chkP pl w row c else none
  | .call_ row x f as => (tk pl w (.row row)).bind fun w1 => callP pl fns blk w1 row x f as
  | s => (tk pl w (.row (rowS s))).bind fun w1 => plnP pl w1 s
noncomputable def runS : Nat → Wo → Sm → Option (Wo × Option Out)
  | 0, _, _ => none
  | d + 1, w, s => stmP pl fns (runL (runS d)) w s
noncomputable def runB (d : Nat) : Wo → List Sm → Option (Wo × Option Out) := runL (runS pl fns d)
end
def Mn {α : Type} (f : Wo → α → Option (Wo × Option Out)) : Prop := ∀ w a w' o, f w a = some (w', o) → w.L.evs.length ≤ w'.L.evs.length
theorem runL_mn {rec : Wo → Sm → Option (Wo × Option Out)} (h : Mn rec) : Mn (runL rec) := by
  intro w ss
  induction ss generalizing w with
  | nil => intro w' o e; cases e; exact Nat.le_refl _
  | cons s ss ih =>
    intro w' o e
    simp only [runL] at e
    cases e1 : rec w s with
    | none => rw [e1] at e; cases e
    | some p =>
      obtain ⟨w1, o1⟩ := p
      rw [e1] at e
      simp only [Option.bind_some] at e
      have := h _ _ _ _ e1
      cases o1 with
      | none => have := ih _ _ _ e; omega
      | some q => cases e; exact this
theorem runW_mn {pl : List At} {body : Wo → Option (Wo × Option Out)} (h : ∀ w w' o, body w = some (w', o) → w.L.evs.length ≤ w'.L.evs.length) {row : Int} {c : Cn} : ∀ (k i : Nat) (w w' : Wo) (o : Option Out), runW pl body row c k i w = some (w', o) → w.L.evs.length ≤ w'.L.evs.length := by
  intro k
  induction k with
  | zero =>
    intro i w w' o e
    simp only [runW] at e
    cases e1 : askP pl w row c with
    | none => rw [e1] at e; cases e
    | some p =>
      obtain ⟨w1, r⟩ := p
      rw [e1] at e
      simp only [Option.bind_some] at e
      have := ask_ge e1
      cases r with
      | none => have := flt_ge e; omega
      | some b =>
        cases b with
        | true => have := flt_ge e; omega
        | false => cases e; omega
  | succ k ih =>
    intro i w w' o e
    simp only [runW] at e
    cases e1 : askP pl w row c with
    | none => rw [e1] at e; cases e
    | some p =>
      obtain ⟨w1, r⟩ := p
      rw [e1] at e
      simp only [Option.bind_some] at e
      have := ask_ge e1
      cases r with
      | none => have := flt_ge e; omega
      | some b =>
        cases b with
        | true =>
          simp only at e
          cases e2 : tk pl w1 (.turn row ((i : Int) + 1)) with
          | none => rw [e2] at e; cases e
          | some w2 =>
            rw [e2] at e
            simp only [Option.bind_some] at e
            have := tk_ge e2
            cases e3 : body w2 with
            | none => rw [e3] at e; cases e
            | some q =>
              obtain ⟨w3, o3⟩ := q
              rw [e3] at e
              simp only [Option.bind_some] at e
              have := h _ _ _ e3
              cases o3 with
              | none => have := ih _ _ _ _ e; omega
              | some z => cases e; omega
        | false => cases e; omega
theorem call_mn {pl : List At} {fns : List Fn} {blk : Wo → List Sm → Option (Wo × Option Out)} (h : Mn blk) {w w' : Wo} {row : Int} {x f : Str} {as : List Ex} {o : Option Out} (e : callP pl fns blk w row x f as = some (w', o)) : w.L.evs.length ≤ w'.L.evs.length := by
  unfold callP at e
  split at e
  · cases e
  · rename_i g hg
    split at e
    · cases e1 : argsP w.V as with
      | none => rw [e1] at e; cases e
      | some is =>
        rw [e1] at e
        simp only [Option.bind_some] at e
        cases e2 : blk ⟨parV (fun _ => none) g.ps is, fun _ => none, w.L⟩ g.body with
        | none => rw [e2] at e; cases e
        | some p =>
          obtain ⟨w1, o1⟩ := p
          rw [e2] at e
          simp only [Option.bind_some] at e
          have h1 := h _ _ _ _ e2
          simp only at h1
          cases o1 with
          | none => have h2 := sto_ge e; simp only at h2; omega
          | some q =>
            cases q with
            | ret v => have h2 := sto_ge e; simp only at h2; omega
            | fault r k => cases e; exact h1
            | answer v => cases e; exact h1
    · cases e
theorem stm_mn {pl : List At} {fns : List Fn} {blk : Wo → List Sm → Option (Wo × Option Out)} (h : Mn blk) : Mn (stmP pl fns blk) := by
  intro w s w' o e
  have pln : ∀ s, (tk pl w (.row (rowS s))).bind (fun w1 => plnP pl w1 s) = some (w', o) → w.L.evs.length ≤ w'.L.evs.length := fun s e => by
    cases e1 : tk pl w (.row (rowS s)) with
    | none => rw [e1] at e; cases e
    | some w1 => rw [e1] at e; have := tk_ge e1; have := pln_ge (show plnP pl w1 s = some (w', o) from e); omega
  cases s with
  | while_ row c n b =>
    simp only [stmP] at e
    split at e
    · exact runW_mn (fun w w' o e => h _ _ _ _ e) _ _ _ _ _ e
    · cases e
  | if_ row c a b =>
    simp only [stmP, ifP] at e
    split at e
    · cases e1 : askP pl w row c with
      | none => rw [e1] at e; cases e
      | some p =>
        obtain ⟨w1, r⟩ := p
        rw [e1] at e
        simp only [Option.bind_some] at e
        have := ask_ge e1
        cases r with
        | none => have := flt_ge e; omega
        | some t => cases t <;> (have := h _ _ _ _ e; omega)
    · cases e
  | check_ row c =>
    simp only [stmP] at e
    split at e
    · obtain ⟨w1, r, e1, e2⟩ := chk_ge e
      have := ask_ge e1; omega
    · cases e
  | call_ row x f as =>
    simp only [stmP] at e
    cases e1 : tk pl w (.row row) with
    | none => rw [e1] at e; cases e
    | some w1 => rw [e1] at e; have := tk_ge e1; have := call_mn h (show callP pl fns blk w1 row x f as = some (w', o) from e); omega
  | let_ row x g e' => exact pln _ e
  | list_ row x n e' => exact pln _ e
  | set_ row x e' => exact pln _ e
  | put_ row x i e' => exact pln _ e
  | refuse_ row z => exact pln _ e
  | skip_ row => exact pln _ e
  | answer_ row e' => exact pln _ e
  | return_ row e' => exact pln _ e
theorem runS_mn {pl : List At} {fns : List Fn} : ∀ d, Mn (runS pl fns d)
  | 0 => fun w s w' o e => by cases e
  | d + 1 => stm_mn (runL_mn (runS_mn d))
theorem runB_mn {pl : List At} {fns : List Fn} (d : Nat) : Mn (runB pl fns d) := runL_mn (runS_mn d)
end Lk13



namespace Lk13
open PySem L2 M
/-! blocks, soundly -/
def PgAt (ca : Nat → Addr) (m : List Cell) (kp : Nat) (fns : List Fn) : Prop := ∃ fs, m[kp]? = some (.obj (ca 3) fs) ∧ lkD "functions" fs = some (.tup (fns.map encF))
theorem PgAt.keep {ca : Nat → Addr} {m m' : List Cell} {kp n0 : Nat} {T : List Nat} {fns : List Fn} (h : PgAt ca m kp fns) (k : Kp n0 T m m') (h1 : kp < n0) (h2 : kp ∉ T) : PgAt ca m' kp fns := by
  obtain ⟨fs, e1, e2⟩ := h
  exact ⟨fs, by rw [k.2 kp h1 (List.getElem?_eq_some_iff.mp e1).1 h2]; exact e1, e2⟩
def BlkOK (ca : Nat → Addr) (pl : List At) (fns : List Fn) (F : FF) (run : Wo → List Sm → Option (Wo × Option Out)) : Prop :=
  ∀ {n0 : Nat} {m : List Cell} {kr ke kw : Nat} {O : M.D} {kf kv kg : Nat} {w w' : Wo} {o : Option Out} {vd gd : List (Key × M.D)} {kp : Nat} {ss : List Sm}, WAt ca n0 m kr ke kw O pl kf kv kg w vd gd → PgAt ca m kp fns → kp < n0 → kp ∉ [kr, ke, kw] → run w ss = some (w', o) → w'.L.evs.length ≤ 90000 → vd.length ≤ 1000 + w.L.evs.length → gd.length ≤ 1000 + w.L.evs.length →
    Did ca n0 m kr ke kw O pl kf kv kg (1000 + w'.L.evs.length) (1000 + w'.L.evs.length) w' o (F [.ref kr, .ref kp, .ref kf, .tup (encB ss)] m)
def StmOK (ca : Nat → Addr) (pl : List At) (fns : List Fn) (F : FF) (run : Wo → Sm → Option (Wo × Option Out)) : Prop :=
  ∀ {n0 : Nat} {m : List Cell} {kr ke kw : Nat} {O : M.D} {kf kv kg : Nat} {w w' : Wo} {o : Option Out} {vd gd : List (Key × M.D)} {kp : Nat} {s : Sm}, WAt ca n0 m kr ke kw O pl kf kv kg w vd gd → PgAt ca m kp fns → kp < n0 → kp ∉ [kr, ke, kw] → run w s = some (w', o) → w'.L.evs.length ≤ 90000 → vd.length ≤ 1000 + w.L.evs.length → gd.length ≤ 1000 + w.L.evs.length →
    Did ca n0 m kr ke kw O pl kf kv kg (1000 + w'.L.evs.length) (1000 + w'.L.evs.length) w' o (F [.ref kr, .ref kp, .ref kf, encS s] m)
theorem vw_S (S0 : Ms) (s : Sm) : vw S0 (encS s) = encS s := by cases s <;> simp [encS]
theorem vw_O (S0 : Ms) (o : Option Out) : vw S0 (encO o) = encO o := by
  cases o with
  | none => rfl
  | some q => cases q <;> rfl
theorem encO_some (q : Out) : ∃ ds, encO (some q) = .tup ds := by cases q <;> exact ⟨_, rfl⟩
section
variable {ca : Nat → Addr} {pl : List At} {fns : List Fn}
theorem block_loop {r1 r2 r3 rs r5 : FF} {run : Wo → Sm → Option (Wo × Option Out)} (hS : StmOK ca pl fns rs run) (hM : Mn run) {n0 kr ke kw : Nat} {O : M.D} {kf kv kg kp : Nat} (hp0 : kp < n0) (hp1 : kp ∉ [kr, ke, kw]) {x3 : Slot} : ∀ (ss : List Sm) {m : List Cell} {w w' : Wo} {o : Option Out} {vd gd : List (Key × M.D)} (x4 x5 : Slot), WAt ca n0 m kr ke kw O pl kf kv kg w vd gd → PgAt ca m kp fns → runL run w ss = some (w', o) → w'.L.evs.length ≤ 90000 → vd.length ≤ 1000 + w.L.evs.length → gd.length ≤ 1000 + w.L.evs.length →
    ∃ m' vd' gd' y4 y5, M.forM (gNm 4) (l_do_block_1 ca r1 r2 r3 rs r5) (encB ss) ⟨[.val (.ref kr), .val (.ref kp), .val (.ref kf), x3, x4, x5], m⟩ = some (match o with
      | none => .nx
      | some _ => .rt (encO o), ⟨[.val (.ref kr), .val (.ref kp), .val (.ref kf), x3, y4, y5], m'⟩) ∧ WAt ca n0 m' kr ke kw O pl kf kv kg w' vd' gd' ∧ Kp n0 [kr, ke, kw] m m' ∧ vd'.length ≤ 1000 + w'.L.evs.length ∧ gd'.length ≤ 1000 + w'.L.evs.length := by
  intro ss
  induction ss with
  | nil =>
    intro m w w' o vd gd x4 x5 h hp e hn hv hg
    cases e
    exact ⟨m, vd, gd, x4, x5, rfl, h, Kp.refl, hv, hg⟩
  | cons s ss ih =>
    intro m w w' o vd gd x4 x5 h hp e hn hv hg
    simp only [runL] at e
    cases e1 : run w s with
    | none => rw [e1] at e; cases e
    | some p =>
      obtain ⟨w1, o1⟩ := p
      rw [e1] at e
      simp only [Option.bind_some] at e
      rw [show encB (s :: ss) = encS s :: encB ss by simp [encB], forM_cons]
      have vs := fun S0 => vw_S S0 s
      cases o1 with
      | none =>
        simp only at e
        have g1 := runL_mn hM _ _ _ _ e
        obtain ⟨m1, vd1, gd1, c1, h1, k1, l1, l2⟩ := hS h hp hp0 hp1 e1 (by omega) hv hg
        obtain ⟨m2, vd2, gd2, y4, y5, c2, h2, k2, l3, l4⟩ := ih (.val (encS s)) (.val .non) h1 (hp.keep k1 hp0 hp1) e hn l1 l2
        refine ⟨m2, vd2, gd2, y4, y5, ?_, h2, k1.trans k2, l3, l4⟩
        rw [← c2]
        have c1' : rs [.ref kr, .ref kp, .ref kf, encS s] m = some (.non, m1) := c1
        generalize encS s = E at *
        generalize M.forM (gNm 4) (l_do_block_1 ca r1 r2 r3 rs r5) (encB ss) = K at *
        unfold l_do_block_1
        simp [c1', vs]
      | some q =>
        cases e
        obtain ⟨m1, vd1, gd1, c1, h1, k1, l1, l2⟩ := hS h hp hp0 hp1 e1 hn hv hg
        refine ⟨m1, vd1, gd1, .val (encS s), .val (encO (some q)), ?_, h1, k1, l1, l2⟩
        obtain ⟨ds, hd⟩ := encO_some q
        simp only [hd] at c1 ⊢
        generalize encS s = E at *
        generalize M.forM (gNm 4) (l_do_block_1 ca r1 r2 r3 rs r5) (encB ss) = K at *
        unfold l_do_block_1
        simp [c1, vs]
theorem blk_ok {r1 r2 r3 rs r5 : FF} {run : Wo → Sm → Option (Wo × Option Out)} (hS : StmOK ca pl fns rs run) (hM : Mn run) : BlkOK ca pl fns (fnM 6 (b_do_block ca r1 r2 r3 rs r5)) (runL run) := by
  intro n0 m kr ke kw O kf kv kg w w' o vd gd kp ss h hp hp0 hp1 e hn hv hg
  obtain ⟨m1, vd1, gd1, y4, y5, c1, h1, k1, l1, l2⟩ := block_loop (r1 := r1) (r2 := r2) (r3 := r3) (r5 := r5) hS hM hp0 hp1 (x3 := .val (.tup (encB ss))) ss .emp .emp h hp e hn hv hg
  refine ⟨m1, vd1, gd1, ?_, h1, k1, l1, l2⟩
  unfold b_do_block
  generalize l_do_block_1 ca r1 r2 r3 rs r5 = ll at *
  generalize encB ss = BS at *
  cases o with
  | none => simp only at c1; simp [fnM_ap, c1, encO]
  | some q =>
    simp only at c1
    generalize encO (some q) = Q at *
    simp [fnM_ap, c1]
/-! if -/
theorem if_ok {r1 r2 r3 r4 rb : FF} {run : Wo → List Sm → Option (Wo × Option Out)} (hB : BlkOK ca pl fns rb run) (hM : Mn run) {n0 : Nat} {m : List Cell} {kr ke kw : Nat} {O : M.D} {kf kv kg : Nat} {w w' : Wo} {o : Option Out} {vd gd : List (Key × M.D)} {kp : Nat} {row : Int} {c : Cn} {a b : List Sm} (h : WAt ca n0 m kr ke kw O pl kf kv kg w vd gd) (hp : PgAt ca m kp fns) (hp0 : kp < n0) (hp1 : kp ∉ [kr, ke, kw]) (hd : dpC c ≤ 8) (e : ifP pl run w row c a b = some (w', o)) (hn : w'.L.evs.length ≤ 90000) (hv : vd.length ≤ 1000 + w.L.evs.length) (hg : gd.length ≤ 1000 + w.L.evs.length) :
    Did ca n0 m kr ke kw O pl kf kv kg (1000 + w'.L.evs.length) (1000 + w'.L.evs.length) w' o (fnM 5 (b_do_if ca r1 r2 r3 r4 rb) [.ref kr, .ref kp, .ref kf, encS (.if_ row c a b)] m) := by
  unfold ifP at e
  cases e1 : askP pl w row c with
  | none => rw [e1] at e; cases e
  | some p =>
    obtain ⟨w1, r⟩ := p
    rw [e1] at e
    simp only [Option.bind_some] at e
    have g1 := ask_ge e1
    have hle : w1.L.evs.length ≤ w'.L.evs.length := by
      cases r with
      | none => have := flt_ge e; omega
      | some t => cases t <;> exact hM _ _ _ _ e
    have hge : w.L.evs.length ≤ w'.L.evs.length := by omega
    obtain ⟨m1, c1, h1, k1⟩ := ask_ok h (tag := "if") (rest := [.tup (encB a), .tup (encB b)]) hd e1 (by omega) (by omega)
    have hff := h1.f.f
    obtain ⟨fs, s1, s2⟩ := (run_no h1.r).1
    rw [show encS (.if_ row c a b) = .tup [.str "if", .int row, encC c, .tup (encB a), .tup (encB b)] by simp [encS]]
    have vb := fun S0 => vw_oB S0 r
    unfold b_do_if t_do_if_2 t_do_if_1
    generalize encC c = C at *
    generalize f_ask ca = fa at *
    cases r with
    | none =>
      simp only at e
      obtain ⟨m2, c2, h2, k2⟩ := flt_ok h1 (by decide +kernel) e (by omega)
      refine ⟨m2, vd, gd, ?_, h2, k1.trans k2, by omega, by omega⟩
      simp only [oB] at c1
      generalize encB a = A at *
      generalize encB b = B at *
      generalize f_Run_fault ca = fr at *
      simp [fnM_ap, atI, ixN, c1, hff, s1, s2, c2]
    | some t =>
      cases t with
      | true =>
        simp only at e
        obtain ⟨m2, vd2, gd2, c2, h2, k2, l1, l2⟩ := hB h1 (hp.keep k1 hp0 hp1) hp0 hp1 e hn (by omega) (by omega)
        refine ⟨m2, vd2, gd2, ?_, h2, k1.trans k2, l1, l2⟩
        simp only [oB] at c1
        generalize encB a = A at *
        generalize encB b = B at *
        generalize f_Run_fault ca = fr at *
        simp [fnM_ap, atI, ixN, c1, c2]
      | false =>
        simp only at e
        obtain ⟨m2, vd2, gd2, c2, h2, k2, l1, l2⟩ := hB h1 (hp.keep k1 hp0 hp1) hp0 hp1 e hn (by omega) (by omega)
        refine ⟨m2, vd2, gd2, ?_, h2, k1.trans k2, l1, l2⟩
        simp only [oB] at c1
        generalize encB a = A at *
        generalize encB b = B at *
        generalize f_Run_fault ca = fr at *
        simp [fnM_ap, atI, ixN, c1, c2]
end
end Lk13



namespace Lk13
open PySem L2 M
/-! while -/
section
variable {ca : Nat → Addr} {pl : List At} {fns : List Fn}
theorem while_loop {r1 r2 r3 r4 rb : FF} {run : Wo → List Sm → Option (Wo × Option Out)} (hB : BlkOK ca pl fns rb run) (hM : Mn run) {n0 kr ke kw : Nat} {O : M.D} {kf kv kg kp : Nat} (hp0 : kp < n0) (hp1 : kp ∉ [kr, ke, kw]) {row : Int} {c : Cn} (hd : dpC c ≤ 8) {N : Nat} {b : List Sm} {ST : List M.D} (hST : ST = [.str "while", .int row, encC c, .int (N : Int), .tup (encB b)]) : ∀ (k i : Nat) {m : List Cell} {w w' : Wo} {o : Option Out} {vd gd : List (Key × M.D)} (x5 x6 x7 : Slot), i + k = N → WAt ca n0 m kr ke kw O pl kf kv kg w vd gd → PgAt ca m kp fns → runW pl (fun w => run w b) row c k i w = some (w', o) → w'.L.evs.length ≤ 90000 → vd.length ≤ 1000 + w.L.evs.length → gd.length ≤ 1000 + w.L.evs.length →
    ∃ m' vd' gd' w1 fl y5 y6 y7, M.forM (gNm 5) (l_do_while_1 ca r1 r2 r3 r4 rb) ((List.range' i (k + 1)).map fun j => M.D.int (0 + (j : Nat))) ⟨[.val (.ref kr), .val (.ref kp), .val (.ref kf), .val (.tup ST), .val (.int row), x5, x6, x7], m⟩ = some (fl, ⟨[.val (.ref kr), .val (.ref kp), .val (.ref kf), .val (.tup ST), .val (.int row), y5, y6, y7], m'⟩) ∧ WAt ca n0 m' kr ke kw O pl kf kv kg w1 vd' gd' ∧ Kp n0 [kr, ke, kw] m m' ∧ vd'.length ≤ 1000 + w1.L.evs.length ∧ gd'.length ≤ 1000 + w1.L.evs.length ∧ ((fl = .rt (encO o) ∧ w1 = w') ∨ (fl = .nx ∧ flt pl w1 row "turns" = some (w', o))) := by
  intro k
  induction k with
  | zero =>
    intro i m w w' o vd gd x5 x6 x7 hik h hp e hn hv hg
    simp only [runW] at e
    cases e1 : askP pl w row c with
    | none => rw [e1] at e; cases e
    | some p =>
      obtain ⟨w1, r⟩ := p
      rw [e1] at e
      simp only [Option.bind_some] at e
      have g1 := ask_ge e1
      have hle : w1.L.evs.length ≤ w'.L.evs.length := by
        cases r with
        | none => have := flt_ge e; omega
        | some t =>
          cases t with
          | true => have := flt_ge e; omega
          | false => cases e; omega
      obtain ⟨m1, c1, h1, k1⟩ := ask_ok h (tag := "while") (rest := [.int (N : Int), .tup (encB b)]) hd e1 (by omega) (by omega)
      have hff := h1.f.f
      obtain ⟨fs, s1, s2⟩ := (run_no h1.r).1
      rw [← hST] at c1
      have vb := fun S0 => vw_oB S0 r
      have hiN : ((i : Nat) : Int) = (N : Int) := by omega
      have hat3 : atI ST 3 = some (.int (N : Int)) := by rw [hST]; simp
      rw [show (List.range' i (0 + 1)).map (fun j => M.D.int (0 + (j : Nat))) = [M.D.int (0 + (i : Nat))] from rfl]
      rw [forM_cons]
      unfold l_do_while_1 t_do_while_5 t_do_while_4 t_do_while_3
      generalize t_do_while_2 ca r1 r2 r3 r4 rb = tl
      generalize f_ask ca = fa at *
      clear hST
      cases r with
      | none =>
        simp only at e
        obtain ⟨m2, c2, h2, k2⟩ := flt_ok h1 (by decide +kernel) e (by omega)
        have g2 := flt_ge e
        refine ⟨m2, vd, gd, w', _, .val (.int (0 + (i : Nat))), .val .non, x7, ?_, h2, k1.trans k2, by omega, by omega, .inl ⟨rfl, rfl⟩⟩
        simp only [oB] at c1
        generalize f_Run_fault ca = fr at *
        revert tl; refine opq ?_; intro tl
        simp [c1, hff, s1, s2, c2]
      | some t =>
        cases t with
        | true =>
          simp only at e
          refine ⟨m1, vd, gd, w1, .nx, .val (.int (0 + (i : Nat))), .val (.bl true), x7, ?_, h1, k1, by omega, by omega, .inr ⟨rfl, e⟩⟩
          simp only [oB] at c1
          generalize f_Run_fault ca = fr at *
          revert tl; refine opq ?_; intro tl
          simp [c1, hat3, hiN]
        | false =>
          cases e
          refine ⟨m1, vd, gd, _, _, .val (.int (0 + (i : Nat))), .val (.bl false), x7, ?_, h1, k1, by omega, by omega, .inl ⟨rfl, rfl⟩⟩
          simp only [oB] at c1
          generalize f_Run_fault ca = fr at *
          revert tl; refine opq ?_; intro tl
          simp [c1, encO]
  | succ k ih =>
    intro i m w w' o vd gd x5 x6 x7 hik h hp e hn hv hg
    simp only [runW] at e
    cases e1 : askP pl w row c with
    | none => rw [e1] at e; cases e
    | some p =>
      obtain ⟨w1, r⟩ := p
      rw [e1] at e
      simp only [Option.bind_some] at e
      have g1 := ask_ge e1
      have hle : w1.L.evs.length ≤ w'.L.evs.length := by
        cases r with
        | none => have := flt_ge e; omega
        | some t =>
          cases t with
          | true =>
            simp only at e
            cases e2 : tk pl w1 (.turn row ((i : Int) + 1)) with
            | none => rw [e2] at e; cases e
            | some w2 =>
              rw [e2] at e
              simp only [Option.bind_some] at e
              have := tk_ge e2
              cases e3 : run w2 b with
              | none => rw [e3] at e; cases e
              | some q =>
                obtain ⟨w3, o3⟩ := q
                rw [e3] at e
                simp only [Option.bind_some] at e
                have := hM _ _ _ _ e3
                cases o3 with
                | none => have := runW_mn (fun w w' o e => hM _ _ _ _ e) _ _ _ _ _ e; omega
                | some z => cases e; omega
          | false => cases e; omega
      obtain ⟨m1, c1, h1, k1⟩ := ask_ok h (tag := "while") (rest := [.int (N : Int), .tup (encB b)]) hd e1 (by omega) (by omega)
      have hff := h1.f.f
      obtain ⟨⟨fs, s1, s2⟩, ⟨fs3, s3, s4⟩⟩ := run_no h1.r
      rw [← hST] at c1
      have hiN : ¬ ((i : Nat) : Int) = (N : Int) := by omega
      have hat3 : atI ST 3 = some (.int (N : Int)) := by rw [hST]; simp
      have hat4 : atI ST 4 = some (.tup (encB b)) := by rw [hST]; simp
      rw [show (List.range' i (k + 1 + 1)).map (fun j => M.D.int (0 + (j : Nat))) = M.D.int (0 + (i : Nat)) :: (List.range' (i + 1) (k + 1)).map (fun j => M.D.int (0 + (j : Nat))) by rw [List.range'_succ]; rfl]
      rw [forM_cons]
      cases r with
      | none =>
        simp only at e
        obtain ⟨m2, c2, h2, k2⟩ := flt_ok h1 (by decide +kernel) e (by omega)
        have g2 := flt_ge e
        refine ⟨m2, vd, gd, w', _, .val (.int (0 + (i : Nat))), .val .non, x7, ?_, h2, k1.trans k2, by omega, by omega, .inl ⟨rfl, rfl⟩⟩
        simp only [oB] at c1
        generalize M.forM (gNm 5) (l_do_while_1 ca r1 r2 r3 r4 rb) ((List.range' (i + 1) (k + 1)).map fun j => M.D.int (0 + (j : Nat))) = KK
        clear ih hST
        unfold l_do_while_1 t_do_while_5
        generalize t_do_while_4 ca r1 r2 r3 r4 rb = tl
        generalize f_ask ca = fa at *
        generalize f_Run_fault ca = fr at *
        revert tl; refine opq ?_; intro tl
        simp [c1, hff, s1, s2, c2]
      | some t =>
        cases t with
        | false =>
          cases e
          refine ⟨m1, vd, gd, _, _, .val (.int (0 + (i : Nat))), .val (.bl false), x7, ?_, h1, k1, by omega, by omega, .inl ⟨rfl, rfl⟩⟩
          simp only [oB] at c1
          generalize M.forM (gNm 5) (l_do_while_1 ca r1 r2 r3 r4 rb) ((List.range' (i + 1) (k + 1)).map fun j => M.D.int (0 + (j : Nat))) = KK
          clear ih hST
          unfold l_do_while_1 t_do_while_5 t_do_while_4
          generalize t_do_while_3 ca r1 r2 r3 r4 rb = tl
          generalize f_ask ca = fa at *
          generalize f_Run_fault ca = fr at *
          revert tl; refine opq ?_; intro tl
          simp [c1, encO]
        | true =>
          simp only at e
          cases e2 : tk pl w1 (.turn row ((i : Int) + 1)) with
          | none => rw [e2] at e; cases e
          | some w2 =>
            rw [e2] at e
            simp only [Option.bind_some] at e
            have g2 := tk_ge e2
            cases e3 : run w2 b with
            | none => rw [e3] at e; cases e
            | some q =>
              obtain ⟨w3, o3⟩ := q
              rw [e3] at e
              simp only [Option.bind_some] at e
              have g3 := hM _ _ _ _ e3
              have g4 : w3.L.evs.length ≤ w'.L.evs.length := by
                cases o3 with
                | none => exact runW_mn (fun w w' o e => hM _ _ _ _ e) _ _ _ _ _ e
                | some z => cases e; omega
              obtain ⟨m2, c2, h2, k2⟩ := tk_ok h1 (e := .turn row ((i : Int) + 1)) trivial e2 (by omega)
              have c2' : f_Run_happen ca [.ref kr, .tup [.str "turn", .int row, .int ((i : Int) + 1)], .ref kv] m1 = some (.non, m2) := c2
              obtain ⟨m3, vd3, gd3, c3, h3, k3, l1, l2⟩ := hB h2 ((hp.keep k1 hp0 hp1).keep k2 hp0 hp1) hp0 hp1 e3 (by omega) (by omega) (by omega)
              simp only [oB] at c1
              cases o3 with
              | some z =>
                cases e
                refine ⟨m3, vd3, gd3, _, _, .val (.int (0 + (i : Nat))), .val (.bl true), .val (encO (some z)), ?_, h3, (k1.trans k2).trans k3, l1, l2, .inl ⟨rfl, rfl⟩⟩
                obtain ⟨ds, hds⟩ := encO_some z
                simp only [hds] at c3 ⊢
                generalize M.forM (gNm 5) (l_do_while_1 ca r1 r2 r3 r4 rb) ((List.range' (i + 1) (k + 1)).map fun j => M.D.int (0 + (j : Nat))) = KK
                clear ih hST
                generalize encB b = BB at *
                unfold l_do_while_1 t_do_while_5 t_do_while_4 t_do_while_3 t_do_while_2 t_do_while_1
                generalize f_ask ca = fa at *
                generalize f_Run_fault ca = fr at *
                generalize f_Run_happen ca = fh at *
                simp [c1, hat3, hat4, hiN, hff, s3, s4, c2', c3]
              | none =>
                simp only at e
                obtain ⟨m4, vd4, gd4, w4, fl, y5, y6, y7, c4, h4, k4, l3, l4, hfin⟩ := ih (i + 1) (.val (.int (0 + (i : Nat)))) (.val (.bl true)) (.val .non) (by omega) h3 (((hp.keep k1 hp0 hp1).keep k2 hp0 hp1).keep k3 hp0 hp1) e hn l1 l2
                refine ⟨m4, vd4, gd4, w4, fl, y5, y6, y7, ?_, h4, ((k1.trans k2).trans k3).trans k4, l3, l4, hfin⟩
                rw [← c4]
                have c3' : rb [.ref kr, .ref kp, .ref kf, .tup (encB b)] m2 = some (.non, m3) := c3
                generalize M.forM (gNm 5) (l_do_while_1 ca r1 r2 r3 r4 rb) ((List.range' (i + 1) (k + 1)).map fun j => M.D.int (0 + (j : Nat))) = KK
                clear ih hST c4 hfin c3
                generalize encB b = BB at *
                unfold l_do_while_1 t_do_while_5 t_do_while_4 t_do_while_3 t_do_while_2 t_do_while_1
                generalize f_ask ca = fa at *
                generalize f_Run_fault ca = fr at *
                generalize f_Run_happen ca = fh at *
                simp [c1, hat3, hat4, hiN, hff, s3, s4, c2', c3']
theorem rng1_ok {z : Int} (b1 : (-2000000000000000000 : Int) ≤ z) (b2 : z ≤ 2000000000000000000) {S : Ms} {f : EF} (h : f S = some (.int z, S)) : iRg1 f S = some (rngD 0 z.toNat, S) := by
  simp [h, b1, b2]
theorem toNat_suc {N : Nat} : ((N : Int) + 1).toNat = N + 1 := by omega
theorem rng_suc {N : Nat} {S : Ms} : some (rngD 0 ((N : Int) + 1).toNat, S) = some (rngD 0 (N + 1), S) := by rw [toNat_suc]
theorem rng_val (kr kp kf : Nat) (row : Int) (m : List Cell) {N : Nat} {ST : List M.D} (hat3 : atI ST 3 = some (.int (N : Int))) : (eOp gAdd (eOpL gIx 3 (eC (.int 3))) (eC (.int 1))) ⟨[.val (.ref kr), .val (.ref kp), .val (.ref kf), .val (.tup ST), .val (.int row), .emp, .emp, .emp], m⟩ = some (.int ((N : Int) + 1), ⟨[.val (.ref kr), .val (.ref kp), .val (.ref kf), .val (.tup ST), .val (.int row), .emp, .emp, .emp], m⟩) := by
  simp [hat3]
theorem rng_while (kr kp kf : Nat) (row : Int) (m : List Cell) {N : Nat} (hN : N ≤ 1000000) {ST : List M.D} (hat3 : atI ST 3 = some (.int (N : Int))) : iRg1 (eOp gAdd (eOpL gIx 3 (eC (.int 3))) (eC (.int 1))) ⟨[.val (.ref kr), .val (.ref kp), .val (.ref kf), .val (.tup ST), .val (.int row), .emp, .emp, .emp], m⟩ = some (rngD 0 (N + 1), ⟨[.val (.ref kr), .val (.ref kp), .val (.ref kf), .val (.tup ST), .val (.int row), .emp, .emp, .emp], m⟩) :=
  (rng1_ok (by omega) (by omega) (rng_val kr kp kf row m hat3)).trans rng_suc
theorem while_fin1 {it : AF} {ll tl : SF} {RG ST : List M.D} {kr kp kf : Nat} {row : Int} {m m1 : List Cell} {r1 : List M.Slot} {Q : M.D} (hat1 : atI ST 1 = some (.int row)) (hit : it ⟨[.val (.ref kr), .val (.ref kp), .val (.ref kf), .val (.tup ST), .val (.int row), .emp, .emp, .emp], m⟩ = some (RG, ⟨[.val (.ref kr), .val (.ref kp), .val (.ref kf), .val (.tup ST), .val (.int row), .emp, .emp, .emp], m⟩)) (c1 : M.forM (gNm 5) ll RG ⟨[.val (.ref kr), .val (.ref kp), .val (.ref kf), .val (.tup ST), .val (.int row), .emp, .emp, .emp], m⟩ = some (.rt Q, ⟨r1, m1⟩)) :
    fnM 8 (sSeq (sAsg (eOpL gIx 3 (eC (.int 1))) (gNm 4)) (sSeq (sFor it (gNm 5) ll) tl)) [.ref kr, .ref kp, .ref kf, .tup ST] m = some (Q, m1) := by
  simp [fnM_ap, hat1, hit, c1]
theorem while_fin2 {it : AF} {ll tl : SF} {RG ST : List M.D} {kr kp kf : Nat} {row : Int} {m m1 m2 : List Cell} {r1 r2 : List M.Slot} {Q : M.D} (hat1 : atI ST 1 = some (.int row)) (hit : it ⟨[.val (.ref kr), .val (.ref kp), .val (.ref kf), .val (.tup ST), .val (.int row), .emp, .emp, .emp], m⟩ = some (RG, ⟨[.val (.ref kr), .val (.ref kp), .val (.ref kf), .val (.tup ST), .val (.int row), .emp, .emp, .emp], m⟩)) (c1 : M.forM (gNm 5) ll RG ⟨[.val (.ref kr), .val (.ref kp), .val (.ref kf), .val (.tup ST), .val (.int row), .emp, .emp, .emp], m⟩ = some (.nx, ⟨r1, m1⟩)) (c2 : tl ⟨r1, m1⟩ = some (.rt Q, ⟨r2, m2⟩)) :
    fnM 8 (sSeq (sAsg (eOpL gIx 3 (eC (.int 1))) (gNm 4)) (sSeq (sFor it (gNm 5) ll) tl)) [.ref kr, .ref kp, .ref kf, .tup ST] m = some (Q, m2) := by
  simp [fnM_ap, hat1, hit, c1, c2]
theorem while_fin3 {ca : Nat → Addr} {fr : FF} {kr kp kf kv kg : Nat} {row : Int} {m1 m2 : List Cell} {x3 y5 y6 y7 : M.Slot} {fs : List (Str × M.D)} {Q : M.D} (hff : m1[kf]? = some (.obj (ca 6) [("variables", .ref kv), ("ranges", .ref kg)])) (s1 : m1[kr]? = some (.obj (ca 5) fs)) (s2 : lkD "fault" fs = none) (c2 : fr [.ref kr, .int row, .str "turns", .ref kv] m1 = some (Q, m2)) :
    sRet (eMeth (ca 5) "fault" 4 fr (eVar 0) (aCons (eVar 4) (aCons (eC (.str "turns")) (aCons (eFld (ca 6) "variables" (eVar 2)) aNil)))) ⟨[.val (.ref kr), .val (.ref kp), .val (.ref kf), x3, .val (.int row), y5, y6, y7], m1⟩ = some (.rt Q, ⟨[.val (.ref kr), .val (.ref kp), .val (.ref kf), x3, .val (.int row), y5, y6, y7], m2⟩) := by
  simp [hff, s1, s2, c2]
theorem while_ok {r1 r2 r3 r4 rb : FF} {run : Wo → List Sm → Option (Wo × Option Out)} (hB : BlkOK ca pl fns rb run) (hM : Mn run) {n0 : Nat} {m : List Cell} {kr ke kw : Nat} {O : M.D} {kf kv kg : Nat} {w w' : Wo} {o : Option Out} {vd gd : List (Key × M.D)} {kp : Nat} {row : Int} {c : Cn} {N : Nat} {b : List Sm} (h : WAt ca n0 m kr ke kw O pl kf kv kg w vd gd) (hp : PgAt ca m kp fns) (hp0 : kp < n0) (hp1 : kp ∉ [kr, ke, kw]) (hd : dpC c ≤ 8) (hN : N ≤ 1000000) (e : runW pl (fun w => run w b) row c N 0 w = some (w', o)) (hn : w'.L.evs.length ≤ 90000) (hv : vd.length ≤ 1000 + w.L.evs.length) (hg : gd.length ≤ 1000 + w.L.evs.length) :
    Did ca n0 m kr ke kw O pl kf kv kg (1000 + w'.L.evs.length) (1000 + w'.L.evs.length) w' o (fnM 8 (b_do_while ca r1 r2 r3 r4 rb) [.ref kr, .ref kp, .ref kf, encS (.while_ row c N b)] m) := by
  obtain ⟨m1, vd1, gd1, w1, fl, y5, y6, y7, c1, h1, k1, l1, l2, hfin⟩ := while_loop (r1 := r1) (r2 := r2) (r3 := r3) (r4 := r4) hB hM hp0 hp1 hd (N := N) rfl N 0 .emp .emp .emp (Nat.zero_add N) h hp e hn hv hg
  rw [show encS (.while_ row c N b) = .tup [.str "while", .int row, encC c, .int (N : Int), .tup (encB b)] by simp [encS]]
  have hrg : (List.range' 0 (N + 1)).map (fun j => M.D.int (0 + (j : Nat))) = rngD 0 (N + 1) := by
    unfold rngD
    rw [List.range_eq_range']
  rw [hrg] at c1
  have hat1 : atI [M.D.str "while", .int row, encC c, .int (N : Int), .tup (encB b)] 1 = some (.int row) := atI_1
  have hat3 : atI [M.D.str "while", .int row, encC c, .int (N : Int), .tup (encB b)] 3 = some (.int (N : Int)) := atI_3
  have hit := rng_while kr kp kf row m hN hat3
  rcases hfin with ⟨rfl, rfl⟩ | ⟨rfl, ef⟩
  · exact ⟨m1, vd1, gd1, while_fin1 hat1 hit c1, h1, k1, l1, l2⟩
  · have g2 := flt_ge ef
    obtain ⟨m2, c2, h2, k2⟩ := flt_ok h1 (by decide +kernel) ef (by omega)
    obtain ⟨fs, s1, s2⟩ := (run_no h1.r).1
    exact ⟨m2, vd1, gd1, while_fin2 hat1 hit c1 (while_fin3 h1.f.f s1 s2 c2), h2, k1.trans k2, by omega, by omega⟩
end
end Lk13



namespace Lk13
open PySem L2 M
/-! calls -/
theorem set_last {α : Type} {m : List α} {a b : α} : (m ++ [a]).set m.length b = m ++ [b] := by simp [List.set_append]
theorem set_last2 {α : Type} {m : List α} {a b c : α} : (m ++ [a] ++ [c]).set m.length b = m ++ [b] ++ [c] := by simp [List.set_append]
theorem get_last {α : Type} {m : List α} {a : α} : (m ++ [a])[m.length]? = some a := by simp
theorem get_last2 {α : Type} {m : List α} {a c : α} : (m ++ [a] ++ [c])[m.length]? = some a := by simp
theorem frame_make {ca : Nat → Addr} {m : List Cell} {k : Nat} : f_Frame___init__ ca [.ref m.length, .ref k] (m ++ [.obj (ca 6) []]) = some (.non, m ++ [.obj (ca 6) [("variables", .ref k), ("ranges", .ref (m.length + 1))]] ++ [.dct []]) := by
  have n1 : ¬ ("variables" : Str) = "ranges" := by decide +kernel
  unfold f_Frame___init__ b_Frame___init__
  simp [fnM_ap, n1, set_last, List.set_append]
theorem Kp.weak {n0 n1 : Nat} {T : List Nat} {m m' : List Cell} (h : Kp n1 T m m') (hle : n0 ≤ n1) : Kp n0 T m m' := ⟨h.1, fun k a b c => h.2 k (by omega) b c⟩
theorem VR.app {m r : List Cell} {vd : List (Key × M.D)} {V : Vs} (h : VR m vd V) : VR (m ++ r) vd V := fun x => by
  have hx := h x
  cases hv : V x with
  | none => rw [hv] at hx; exact hx
  | some w =>
    rw [hv] at hx
    cases w with
    | int i => exact hx
    | lst l =>
      obtain ⟨h1, k, h2, h3⟩ := hx
      exact ⟨h1, k, h2, by rw [List.getElem?_append_left (List.getElem?_eq_some_iff.mp h3).1]; exact h3⟩
/-- a dict of ints alone -/
structure PR (vd : List (Key × M.D)) (V : Vs) : Prop where
  v : ∀ x, match V x with
    | none => lkK vd (.inr x) = none
    | some (.int i) => lkK vd (.inr x) = some (.int i)
    | some (.lst _) => False
  n : ∀ k j, lkK vd k ≠ some (.ref j)
theorem PR.nil : PR [] (fun _ => none) := ⟨fun _ => rfl, fun k j e => by cases e⟩
theorem PR.put {vd : List (Key × M.D)} {V : Vs} (h : PR vd V) (x : Str) (i : Int) : PR (ptK vd (.inr x) (.int i)) (setV V x (.int i)) := by
  refine ⟨fun y => ?_, fun k j e => ?_⟩
  · unfold setV
    by_cases q : y = x
    · subst q
      rw [if_pos rfl]
      show lkK _ _ = _
      rw [lk_pt, if_pos rfl]
    · rw [if_neg q]
      have hne : ¬ (Sum.inr y : Key) = .inr x := fun z => q (Sum.inr.inj z)
      have hy := h.v y
      cases hv : V y with
      | none => rw [hv] at hy; show lkK _ _ = _; rw [lk_pt, if_neg hne]; exact hy
      | some w =>
        rw [hv] at hy
        cases w with
        | int j => show lkK _ _ = _; rw [lk_pt, if_neg hne]; exact hy
        | lst l => exact hy
  · rw [lk_pt] at e
    split at e
    · cases e
    · exact h.n _ _ e
theorem PR.vr {vd : List (Key × M.D)} {V : Vs} (h : PR vd V) (m : List Cell) : VR m vd V := fun x => by
  have hx := h.v x
  cases hv : V x with
  | none => rw [hv] at hx; exact hx
  | some w =>
    rw [hv] at hx
    cases w with
    | int i => exact hx
    | lst l => exact hx.elim
theorem vw_F (S0 : Ms) (g : Fn) : vw S0 (encF g) = encF g := rfl
theorem parV_nil {V : Vs} {is : List Int} : parV V [] is = V := by cases is <;> simp [parV]
theorem parV_cons {V : Vs} {x : Str} {xs : List Str} {i : Int} {is : List Int} : parV V (x :: xs) (i :: is) = parV (setV V x (.int i)) xs is := by simp [parV]
theorem find_loop (f : Str) (m : List Cell) (x0 : M.Slot) : ∀ (fns : List Fn) (x2 : M.Slot), ∃ y2, M.forM (gNm 2) l_find_function_1 (fns.map encF) ⟨[x0, .val (.str f), x2], m⟩ = some (match fns.find? (fun g => decide (g.name = f)) with
    | none => .nx
    | some g => .rt (encF g), ⟨[x0, .val (.str f), y2], m⟩)
  | [], x2 => ⟨x2, rfl⟩
  | g :: fns, x2 => by
    rw [List.map_cons, forM_cons]
    have hat : atI [M.D.int g.row, .str g.name, .tup (g.ps.map M.D.str), .tup (encB g.body)] 1 = some (.str g.name) := atI_1
    by_cases q : g.name = f
    · subst q
      refine ⟨.val (encF g), ?_⟩
      rw [List.find?_cons_of_pos (by simp)]
      show _ = some (Fl.rt (encF g), _)
      generalize M.forM (gNm 2) l_find_function_1 (fns.map encF) = K
      unfold l_find_function_1 encF
      generalize [M.D.int g.row, .str g.name, .tup (g.ps.map M.D.str), .tup (encB g.body)] = GG at *
      simp [hat]
    · obtain ⟨y2, ih⟩ := find_loop f m x0 fns (.val (encF g))
      refine ⟨y2, ?_⟩
      rw [List.find?_cons_of_neg (by simpa using q), ← ih]
      generalize M.forM (gNm 2) l_find_function_1 (fns.map encF) = K
      unfold l_find_function_1 encF
      generalize [M.D.int g.row, .str g.name, .tup (g.ps.map M.D.str), .tup (encB g.body)] = GG at *
      simp [hat, q]
theorem find_ok {fns : List Fn} {f : Str} {g : Fn} (h : fns.find? (fun g => decide (g.name = f)) = some g) (m : List Cell) : f_find_function [.tup (fns.map encF), .str f] m = some (encF g, m) := by
  obtain ⟨y2, e⟩ := find_loop f m (.val (.tup (fns.map encF))) fns .emp
  rw [h] at e
  unfold f_find_function b_find_function
  generalize l_find_function_1 = ll at *
  generalize fns.map encF = FS at *
  simp only at e
  simp [fnM_ap, e]
section
variable {ca : Nat → Addr} {pl : List At} {fns : List Fn}
theorem args_step {r1 r2 r3 r4 r5 : FF} {mm : List Cell} {kf kv kg : Nat} {vd2 : List (Key × M.D)} {x0 x1 x3 x4 x6 x7 x8 : M.Slot} {p : Str} {E : M.D} {i : Int} (hf : mm[kf]? = some (.obj (ca 6) [("variables", .ref kv), ("ranges", .ref kg)])) (hv : f_value_of 8 [E, .ref kv] (mm ++ [.dct vd2]) = some (.int i, mm ++ [.dct vd2])) (hl : vd2.length < 1000000) (hve : ∀ S0 : Ms, vw S0 E = E) :
    l_do_call_1 ca r1 r2 r3 r4 r5 ⟨[x0, x1, .val (.ref kf), x3, x4, .val (.ref mm.length), .val (.str p), .val E, x8], mm ++ [.dct vd2]⟩ = some (.nx, ⟨[x0, x1, .val (.ref kf), x3, x4, .val (.ref mm.length), .val (.str p), .val E, x8], mm ++ [.dct (ptK vd2 (.inr p) (.int i))]⟩) := by
  have hf2 : (mm ++ [Cell.dct vd2])[kf]? = some (.obj (ca 6) [("variables", .ref kv), ("ranges", .ref kg)]) := by rw [List.getElem?_append_left (List.getElem?_eq_some_iff.mp hf).1]; exact hf
  have hq : (mm ++ [Cell.dct vd2])[mm.length]? = some (.dct vd2) := get_last
  have hs : ∀ b, (mm ++ [Cell.dct vd2]).set mm.length b = mm ++ [b] := fun b => set_last
  unfold l_do_call_1
  generalize mm ++ [Cell.dct vd2] = m2 at *
  generalize f_value_of 8 = fv at *
  generalize mm.length = kq at *
  simp [hf2, hv, hq, hl, hs, hve, ne_fr]
theorem args_loop {r1 r2 r3 r4 r5 : FF} {mm : List Cell} {kf kv kg : Nat} {vd : List (Key × M.D)} {V : Vs} {x0 x1 x3 x4 x8 : M.Slot} (hf : mm[kf]? = some (.obj (ca 6) [("variables", .ref kv), ("ranges", .ref kg)])) (hv : mm[kv]? = some (.dct vd)) (hV : VR mm vd V) : ∀ (ps : List Str) (as : List Ex) (is : List Int) (vd2 : List (Key × M.D)) (V2 : Vs) (x6 x7 : M.Slot), ps.length = as.length → argsP V as = some is → PR vd2 V2 → vd2.length + ps.length ≤ 100000 →
    ∃ vd3 y6 y7, M.forM (gTp 2 (gsCons (gNm 6) (gsCons (gNm 7) gsNil))) (l_do_call_1 ca r1 r2 r3 r4 r5) (zpD (ps.map M.D.str) (as.map encE)) ⟨[x0, x1, .val (.ref kf), x3, x4, .val (.ref mm.length), x6, x7, x8], mm ++ [.dct vd2]⟩ = some (.nx, ⟨[x0, x1, .val (.ref kf), x3, x4, .val (.ref mm.length), y6, y7, x8], mm ++ [.dct vd3]⟩) ∧ PR vd3 (parV V2 ps is) ∧ vd3.length ≤ vd2.length + ps.length := by
  intro ps
  induction ps with
  | nil =>
    intro as is vd2 V2 x6 x7 hl ha hp hb
    refine ⟨vd2, x6, x7, ?_, ?_, Nat.le_add_right _ _⟩
    rotate_left
    · rw [parV_nil]; exact hp
    rw [List.map_nil, zpD_nil, forM_nil]
  | cons p ps ih =>
    intro as is vd2 V2 x6 x7 hl ha hp hb
    cases as with
    | nil => simp at hl
    | cons a as =>
      simp only [argsP] at ha
      split at ha
      · rename_i hda
        cases hea : evE V a with
        | none => rw [hea] at ha; cases ha
        | some q =>
          cases q with
          | none => rw [hea] at ha; cases ha
          | some i =>
            rw [hea] at ha
            simp only at ha
            cases has : argsP V as with
            | none => rw [has] at ha; cases ha
            | some js =>
              rw [has] at ha
              cases ha
              have hl' : ps.length = as.length := by simpa using hl
              have hb' : vd2.length + (ps.length + 1) ≤ 100000 := by simpa using hb
              have hpt := pt_len (kds := vd2) (k := .inr p) (d := .int i)
              have hvv := value_ok V (mm ++ [.dct vd2]) kv vd (by rw [List.getElem?_append_left (List.getElem?_eq_some_iff.mp hv).1]; exact hv) hV.app a 8 (some i) hda hea
              simp only [oZ] at hvv
              obtain ⟨vd3, y6, y7, e, h2, h3⟩ := ih as js (ptK vd2 (.inr p) (.int i)) (setV V2 p (.int i)) (.val (.str p)) (.val (encE a)) hl' has (hp.put p i) (by omega)
              rw [parV_cons]
              have h4 : vd3.length ≤ vd2.length + (p :: ps).length := by rw [List.length_cons]; omega
              refine ⟨vd3, y6, y7, ?_, h2, h4⟩
              rw [List.map_cons, List.map_cons, zpD_cons, forM_cons]
              have st := args_step (ca := ca) (r1 := r1) (r2 := r2) (r3 := r3) (r4 := r4) (r5 := r5) (x0 := x0) (x1 := x1) (x3 := x3) (x4 := x4) (x6 := x6) (x7 := x7) (x8 := x8) (p := p) hf hvv (by omega) (fun S0 => vw_E S0 a)
              rw [← e]
              generalize l_do_call_1 ca r1 r2 r3 r4 r5 = ll at *
              generalize M.forM (gTp 2 (gsCons (gNm 6) (gsCons (gNm 7) gsNil))) ll (zpD (ps.map M.D.str) (as.map encE)) = KK at *
              simp [st]
      · cases ha
end
end Lk13



namespace Lk13
open PySem L2 M
/-! calls, statements, all together -/
section
variable {ca : Nat → Addr} {pl : List At} {fns : List Fn}
/-- what do_call does up to the block -/
theorem call_in {r1 r2 r3 r4 rb : FF} {m m4 : List Cell} {kr kp kf : Nat} {gfs : List (Str × M.D)} {g : Fn} {row : Int} {x f : Str} {as : List Ex} {vd3 : List (Key × M.D)} {Q : M.D} {y6 y7 : M.Slot} (hp1 : m[kp]? = some (.obj (ca 3) gfs)) (hp2 : lkD "functions" gfs = some (.tup (fns.map encF))) (hg : fns.find? (fun g => decide (g.name = f)) = some g)
    (hargs : M.forM (gTp 2 (gsCons (gNm 6) (gsCons (gNm 7) gsNil))) (l_do_call_1 ca r1 r2 r3 r4 rb) (zpD (g.ps.map M.D.str) (as.map encE)) ⟨[.val (.ref kr), .val (.ref kp), .val (.ref kf), .val (.tup [.str "call", .int row, .str x, .str f, .tup (as.map encE)]), .val (encF g), .val (.ref m.length), .emp, .emp, .emp], m ++ [.dct []]⟩ = some (.nx, ⟨[.val (.ref kr), .val (.ref kp), .val (.ref kf), .val (.tup [.str "call", .int row, .str x, .str f, .tup (as.map encE)]), .val (encF g), .val (.ref m.length), y6, y7, .emp], m ++ [.dct vd3]⟩))
    (hb : rb [.ref kr, .ref kp, .ref (m.length + 1), .tup (encB g.body)] (m ++ [.dct vd3] ++ [.obj (ca 6) [("variables", .ref m.length), ("ranges", .ref (m.length + 2))]] ++ [.dct []]) = some (Q, m4)) (hQ : ∀ S0 : Ms, vw S0 Q = Q) :
    fnM 9 (b_do_call ca r1 r2 r3 r4 rb) [.ref kr, .ref kp, .ref kf, .tup [.str "call", .int row, .str x, .str f, .tup (as.map encE)]] m = (t_do_call_2 ca r1 r2 r3 r4 rb ⟨[.val (.ref kr), .val (.ref kp), .val (.ref kf), .val (.tup [.str "call", .int row, .str x, .str f, .tup (as.map encE)]), .val (encF g), .val (.ref m.length), y6, y7, .val Q], m4⟩).bind fun p => match p.1 with
      | .rt d => some (d, p.2.m)
      | .nx => some (.non, p.2.m)
      | _ => none := by
  have hfind := find_ok hg m
  have hmk := frame_make (ca := ca) (m := m ++ [.dct vd3]) (k := m.length)
  have hlen : (m ++ [Cell.dct vd3]).length = m.length + 1 := by simp
  rw [hlen, show m.length + 1 + 1 = m.length + 2 from rfl] at hmk
  simp only [List.append_assoc, List.cons_append, List.nil_append] at hmk hb
  have a3 : atI [M.D.str "call", .int row, .str x, .str f, .tup (as.map encE)] 3 = some (.str f) := atI_3
  have a4 : atI [M.D.str "call", .int row, .str x, .str f, .tup (as.map encE)] 4 = some (.tup (as.map encE)) := atI_4
  have g2 : atI [M.D.int g.row, .str g.name, .tup (g.ps.map M.D.str), .tup (encB g.body)] 2 = some (.tup (g.ps.map M.D.str)) := atI_2
  have g3 : atI [M.D.int g.row, .str g.name, .tup (g.ps.map M.D.str), .tup (encB g.body)] 3 = some (.tup (encB g.body)) := atI_3
  have eF : encF g = .tup [M.D.int g.row, .str g.name, .tup (g.ps.map M.D.str), .tup (encB g.body)] := rfl
  rw [eF] at hfind hargs ⊢
  clear eF
  generalize [M.D.int g.row, .str g.name, .tup (g.ps.map M.D.str), .tup (encB g.body)] = GG at *
  generalize [M.D.str "call", .int row, .str x, .str f, .tup (as.map encE)] = ST at *
  generalize g.ps.map M.D.str = PS at *
  generalize as.map encE = AS at *
  generalize encB g.body = GB at *
  generalize fns.map encF = FS at *
  unfold b_do_call t_do_call_5 t_do_call_4 t_do_call_3
  generalize t_do_call_2 ca r1 r2 r3 r4 rb = tl at *
  generalize l_do_call_1 ca r1 r2 r3 r4 rb = ll at *
  generalize f_find_function = ff at *
  generalize f_Frame___init__ ca = fi at *
  revert tl; refine opq ?_; intro tl
  simp [fnM_ap, hp1, hp2, a3, a4, g2, g3, hfind, hargs, hlen, hmk, hb, hQ]
  all_goals congr 1
theorem callTail {r1 r2 r3 r4 rb : FF} {m m' : List Cell} {x0 x1 x4 x5 x6 x7 : M.Slot} {kr kf : Nat} {ST : List M.D} {row : Int} {x : Str} {Q Z : M.D} {v : Int} (hx0 : x0 = .val (.ref kr)) (a1 : atI ST 1 = some (.int row)) (a2 : atI ST 2 = some (.str x)) (hQ : Q = .non ∧ v = 0 ∨ Q = .tup [.str "return", .int v]) (hs : f_store ca [.ref kr, .ref kf, .int row, .str x, .int v] m = some (Z, m')) :
    (t_do_call_2 ca r1 r2 r3 r4 rb ⟨[x0, x1, .val (.ref kf), .val (.tup ST), x4, x5, x6, x7, .val Q], m⟩).bind (fun p => match p.1 with
      | .rt d => some (d, p.2.m)
      | .nx => some (.non, p.2.m)
      | _ => none) = some (Z, m') := by
  subst hx0
  unfold t_do_call_2 t_do_call_1
  generalize f_store ca = fs at *
  rcases hQ with ⟨rfl, rfl⟩ | rfl
  · simp [a1, a2, hs]
  · simp [a1, a2, hs]
theorem callTailX {r1 r2 r3 r4 rb : FF} {m : List Cell} {x0 x1 x2 x3 x4 x5 x6 x7 : M.Slot} {t : Str} {ds : List M.D} (ht : ¬ t = "return") :
    (t_do_call_2 ca r1 r2 r3 r4 rb ⟨[x0, x1, x2, x3, x4, x5, x6, x7, .val (.tup (.str t :: ds))], m⟩).bind (fun p => match p.1 with
      | .rt d => some (d, p.2.m)
      | .nx => some (.non, p.2.m)
      | _ => none) = some (.tup (.str t :: ds), m) := by
  have a0 : atI (M.D.str t :: ds) 0 = some (.str t) := atI_0
  unfold t_do_call_2 t_do_call_1
  generalize M.D.str t :: ds = TT at *
  simp [a0, ht]
theorem call_ok {r1 r2 r3 r4 rb : FF} {run : Wo → List Sm → Option (Wo × Option Out)} (hB : BlkOK ca pl fns rb run) (hM : Mn run) {n0 : Nat} {m : List Cell} {kr ke kw : Nat} {O : M.D} {kf kv kg : Nat} {w w' : Wo} {o : Option Out} {vd gd : List (Key × M.D)} {kp : Nat} {row : Int} {x f : Str} {as : List Ex} (h : WAt ca n0 m kr ke kw O pl kf kv kg w vd gd) (hp : PgAt ca m kp fns) (hp0 : kp < n0) (hp1 : kp ∉ [kr, ke, kw]) (e : callP pl fns run w row x f as = some (w', o)) (hn : w'.L.evs.length ≤ 90000) (hv : vd.length + 1 ≤ 1000 + w.L.evs.length) (hg : gd.length ≤ 1000 + w.L.evs.length) :
    Did ca n0 m kr ke kw O pl kf kv kg (1000 + w'.L.evs.length) (1000 + w'.L.evs.length) w' o (fnM 9 (b_do_call ca r1 r2 r3 r4 rb) [.ref kr, .ref kp, .ref kf, encS (.call_ row x f as)] m) := by
  have hge := call_mn hM e
  rw [show encS (.call_ row x f as) = .tup [.str "call", .int row, .str x, .str f, .tup (as.map encE)] by simp [encS]]
  unfold callP at e
  split at e
  · cases e
  · rename_i g hfg
    split at e
    · rename_i hlen
      cases e1 : argsP w.V as with
      | none => rw [e1] at e; cases e
      | some is =>
        rw [e1] at e
        simp only [Option.bind_some] at e
        cases e2 : run ⟨parV (fun _ => none) g.ps is, fun _ => none, w.L⟩ g.body with
        | none => rw [e2] at e; cases e
        | some p =>
          obtain ⟨w1, o1⟩ := p
          rw [e2] at e
          simp only [Option.bind_some] at e
          have g1 := hM _ _ _ _ e2
          simp only at g1
          have g2 : w1.L.evs.length ≤ w'.L.evs.length := by
            cases o1 with
            | none => have h2 := sto_ge e; exact h2
            | some q =>
              cases q with
              | ret v => have h2 := sto_ge e; exact h2
              | fault r k => cases e; exact Nat.le_refl _
              | answer v => cases e; exact Nat.le_refl _
          obtain ⟨vd3, y6, y7, c1, p3, l3⟩ := args_loop (ca := ca) (r1 := r1) (r2 := r2) (r3 := r3) (r4 := r4) (r5 := rb) (x0 := .val (.ref kr)) (x1 := .val (.ref kp)) (x3 := .val (.tup [.str "call", .int row, .str x, .str f, .tup (as.map encE)])) (x4 := .val (encF g)) (x8 := .emp) h.f.f h.f.v h.f.vr g.ps as is [] (fun _ => none) .emp .emp hlen.1 e1 PR.nil (by have := hlen.1; have := hlen.2; simp; omega)
          obtain ⟨b1, b2, b3⟩ := h.r.bnd
          obtain ⟨mo1, mo2⟩ := h.mono
          generalize hm3 : (m ++ [Cell.dct vd3] ++ [Cell.obj (ca 6) [("variables", .ref m.length), ("ranges", .ref (m.length + 2))]] ++ [Cell.dct []]) = m3
          have hm3' : m3 = m ++ [Cell.dct vd3, Cell.obj (ca 6) [("variables", .ref m.length), ("ranges", .ref (m.length + 2))], Cell.dct []] := by rw [← hm3]; simp
          have old : ∀ k, k < m.length → m3[k]? = m[k]? := fun k hk => by rw [hm3', List.getElem?_append_left hk]
          have q0 : m3[m.length]? = some (.dct vd3) := by rw [hm3', List.getElem?_append_right (Nat.le_refl _), Nat.sub_self]; rfl
          have q1 : m3[m.length + 1]? = some (Cell.obj (ca 6) [("variables", .ref m.length), ("ranges", .ref (m.length + 2))]) := by rw [hm3', List.getElem?_append_right (by omega), show m.length + 1 - m.length = 1 by omega]; rfl
          have q2 : m3[m.length + 2]? = some (Cell.dct []) := by rw [hm3', List.getElem?_append_right (by omega), show m.length + 2 - m.length = 2 by omega]; rfl
          have kp0 : Kp m.length [kr, ke, kw] m m3 := by rw [hm3']; exact Kp.refl.app
          have w3 : WAt ca m.length m3 kr ke kw O pl (m.length + 1) m.length (m.length + 2) ⟨parV (fun _ => none) g.ps is, fun _ => none, w.L⟩ vd3 [] :=
            ⟨h.r.same (old _ b1) (old _ b2) (old _ b3), ⟨q1, q0, p3.vr m3, by have h1 := hlen.1; have h2 := hlen.2; simp at l3; omega, q2, fun y => rfl, by simp, fun y k z => (p3.n _ _ z).elim, fun y z k u => (p3.n _ _ u).elim, by simp, fun y k z => (p3.n _ _ z).elim, by omega, by omega, by omega, by omega, fun y k z => (p3.n _ _ z).elim⟩, b1, b2, b3⟩
          have hpk : PgAt ca m3 kp fns := hp.keep kp0 (by omega) hp1
          obtain ⟨m4, vd4, gd4, c4, h4, k4, l4, l5⟩ := hB w3 hpk (by omega) hp1 e2 (by omega) (by have h1 := hlen.1; have h2 := hlen.2; simp at l3; simp only; omega) (by simp)
          have kk := kp0.trans k4
          have hfr := h.f.keep (kk.keep (Nat.le_refl _)) (by simp) h.ne.2
          have hr4 := h4.r
          have w4 : WAt ca n0 m4 kr ke kw O pl kf kv kg { w with L := w1.L } vd gd := ⟨hr4, hfr, h.lo⟩
          have kn := kk.weak (n0 := n0) mo2
          obtain ⟨gfs, hpa, hpb⟩ := hp
          have cin := call_in (ca := ca) (r1 := r1) (r2 := r2) (r3 := r3) (r4 := r4) (rb := rb) (kf := kf) (row := row) (x := x) hpa hpb hfg c1 (by rw [hm3]; exact c4) (fun S0 => vw_O S0 o1)
          cases o1 with
          | none =>
            simp only at e
            obtain ⟨m5, vd5, c5, h5, k5, l6, l7⟩ := sto_ok w4 e (by omega) (by omega)
            refine ⟨m5, vd5, gd, ?_, h5, kn.trans k5, by omega, by omega⟩
            rw [cin]
            exact callTail rfl atI_1 atI_2 (.inl ⟨rfl, rfl⟩) c5
          | some q =>
            cases q with
            | ret v =>
              simp only at e
              obtain ⟨m5, vd5, c5, h5, k5, l6, l7⟩ := sto_ok w4 e (by omega) (by omega)
              refine ⟨m5, vd5, gd, ?_, h5, kn.trans k5, by omega, by omega⟩
              rw [cin]
              exact callTail rfl atI_1 atI_2 (.inr rfl) c5
            | fault r k =>
              cases e
              refine ⟨m4, vd, gd, ?_, w4, kn, by simp only; omega, by simp only; omega⟩
              rw [cin]
              exact callTailX (by decide +kernel)
            | answer v =>
              cases e
              refine ⟨m4, vd, gd, ?_, w4, kn, by simp only; omega, by simp only; omega⟩
              rw [cin]
              exact callTailX (by decide +kernel)
    · cases e
/-! statements -/
theorem ne_stm : ¬ ("if" : Str) = "while" ∧ ¬ ("check" : Str) = "while" ∧ ¬ ("check" : Str) = "if" ∧ ¬ ("call" : Str) = "while" ∧ ¬ ("call" : Str) = "if" ∧ ¬ ("call" : Str) = "check" := by decide +kernel
theorem stm_disp {r1 r2 r3 r4 r5 : FF} {m m1 : List Cell} {kr kp kf kv kg : Nat} {t : Str} {row : Int} {ds : List M.D} {fs : List (Str × M.D)} (hff : m[kf]? = some (.obj (ca 6) [("variables", .ref kv), ("ranges", .ref kg)])) (s1 : m[kr]? = some (.obj (ca 5) fs)) (s2 : lkD "happen" fs = none) (n1 : ¬ t = "while") (n2 : ¬ t = "if") (n3 : ¬ t = "check") (hh : f_Run_happen ca [.ref kr, .tup [.str "row", .int row], .ref kv] m = some (.non, m1)) {Z : M.D} {m2 : List Cell} (hc : if t = "call" then r1 [.ref kr, .ref kp, .ref kf, .tup (.str t :: .int row :: ds)] m1 = some (Z, m2) else f_do_plain ca [.ref kr, .ref kf, .tup (.str t :: .int row :: ds)] m1 = some (Z, m2)) :
    fnM 4 (b_do_statement ca r1 r2 r3 r4 r5) [.ref kr, .ref kp, .ref kf, .tup (.str t :: .int row :: ds)] m = some (Z, m2) := by
  have a0 : atI (M.D.str t :: .int row :: ds) 0 = some (.str t) := atI_0
  have a1 : atI (M.D.str t :: .int row :: ds) 1 = some (.int row) := atI_1
  generalize M.D.str t :: .int row :: ds = ST at *
  unfold b_do_statement t_do_statement_4 t_do_statement_3 t_do_statement_2 t_do_statement_1
  generalize f_do_plain ca = fp at *
  generalize f_do_check ca = fc at *
  generalize f_Run_happen ca = fh at *
  by_cases c : t = "call"
  · subst c
    rw [if_pos rfl] at hc
    simp [fnM_ap, a0, a1, n1, n2, n3, hff, s1, s2, hh, hc]
  · rw [if_neg c] at hc
    simp [fnM_ap, a0, a1, n1, n2, n3, c, hff, s1, s2, hh, hc]
theorem stm_while {r1 r2 r3 r4 r5 : FF} {m m2 : List Cell} {kr kp kf : Nat} {ds : List M.D} {Z : M.D} (hc : r3 [.ref kr, .ref kp, .ref kf, .tup (.str "while" :: ds)] m = some (Z, m2)) : fnM 4 (b_do_statement ca r1 r2 r3 r4 r5) [.ref kr, .ref kp, .ref kf, .tup (.str "while" :: ds)] m = some (Z, m2) := by
  have a0 : atI (M.D.str "while" :: ds) 0 = some (.str "while") := atI_0
  generalize M.D.str "while" :: ds = ST at *
  unfold b_do_statement
  generalize t_do_statement_4 ca r1 r2 r3 r4 r5 = tl
  revert tl; refine opq ?_; intro tl
  simp [fnM_ap, a0, hc]
theorem stm_if {r1 r2 r3 r4 r5 : FF} {m m2 : List Cell} {kr kp kf : Nat} {ds : List M.D} {Z : M.D} (hc : r2 [.ref kr, .ref kp, .ref kf, .tup (.str "if" :: ds)] m = some (Z, m2)) : fnM 4 (b_do_statement ca r1 r2 r3 r4 r5) [.ref kr, .ref kp, .ref kf, .tup (.str "if" :: ds)] m = some (Z, m2) := by
  have a0 : atI (M.D.str "if" :: ds) 0 = some (.str "if") := atI_0
  obtain ⟨n1, _⟩ := ne_stm
  generalize M.D.str "if" :: ds = ST at *
  unfold b_do_statement t_do_statement_4
  generalize t_do_statement_3 ca r1 r2 r3 r4 r5 = tl
  revert tl; refine opq ?_; intro tl
  simp [fnM_ap, a0, n1, hc]
theorem stm_check {r1 r2 r3 r4 r5 : FF} {m m2 : List Cell} {kr kp kf : Nat} {ds : List M.D} {Z : M.D} (hc : f_do_check ca [.ref kr, .ref kf, .tup (.str "check" :: ds)] m = some (Z, m2)) : fnM 4 (b_do_statement ca r1 r2 r3 r4 r5) [.ref kr, .ref kp, .ref kf, .tup (.str "check" :: ds)] m = some (Z, m2) := by
  have a0 : atI (M.D.str "check" :: ds) 0 = some (.str "check") := atI_0
  obtain ⟨_, n2, n3, _⟩ := ne_stm
  generalize M.D.str "check" :: ds = ST at *
  unfold b_do_statement t_do_statement_4 t_do_statement_3
  generalize t_do_statement_2 ca r1 r2 r3 r4 r5 = tl
  generalize f_do_check ca = fc at *
  revert tl; refine opq ?_; intro tl
  simp [fnM_ap, a0, n2, n3, hc]
theorem stm_ok (d : Nat) (k : Nat) (hB : BlkOK ca pl fns (f_do_block ca k) (runB pl fns d)) : StmOK ca pl fns (f_do_statement ca (k + 2)) (runS pl fns (d + 1)) := by
  intro n0 m kr ke kw O kf kv kg w w' o vd gd kp s h hp hp0 hp1 e hn hv hg
  have hM := runB_mn (pl := pl) (fns := fns) d
  have e' : stmP pl fns (runB pl fns d) w s = some (w', o) := e
  clear e
  rw [f_do_statement_succ]
  have hff := h.f.f
  obtain ⟨fs, s1, s2⟩ := (run_no h.r).2
  have pln : ∀ s t ds, encS s = .tup (.str t :: .int (rowS s) :: ds) → ¬ t = "while" → ¬ t = "if" → ¬ t = "check" → ¬ t = "call" → (tk pl w (.row (rowS s))).bind (fun w1 => plnP pl w1 s) = some (w', o) → Did ca n0 m kr ke kw O pl kf kv kg (1000 + w'.L.evs.length) (1000 + w'.L.evs.length) w' o (fnM 4 (b_do_statement ca (f_do_call ca (k + 1)) (f_do_if ca (k + 1)) (f_do_while ca (k + 1)) (f_do_statement ca (k + 1)) (f_do_block ca (k + 1))) [.ref kr, .ref kp, .ref kf, encS s] m) := fun s t ds hs n1 n2 n3 n4 e => by
    cases e1 : tk pl w (.row (rowS s)) with
    | none => rw [e1] at e; cases e
    | some w1 =>
      rw [e1] at e
      simp only [Option.bind_some] at e
      have g1 := tk_ge e1
      have g2 := pln_ge e
      obtain ⟨m1, c1, h1, k1⟩ := tk_ok h (e := .row (rowS s)) trivial e1 (by omega)
      obtain ⟨m2, vd2, gd2, c2, h2, k2, l1, l2⟩ := plain_ok h1 e (by omega) (by omega) (by omega)
      refine ⟨m2, vd2, gd2, ?_, h2, k1.trans k2, by omega, by omega⟩
      rw [hs] at c2 ⊢
      exact stm_disp hff s1 s2 n1 n2 n3 c1 (by rw [if_neg n4]; exact c2)
  cases s with
  | while_ row c n b =>
    simp only [stmP] at e'
    split at e'
    · rename_i hd
      obtain ⟨m2, vd2, gd2, c2, h2, k2, l1, l2⟩ := while_ok (r1 := f_do_call ca k) (r2 := f_do_if ca k) (r3 := f_do_while ca k) (r4 := f_do_statement ca k) hB hM h hp hp0 hp1 hd.1 hd.2 e' hn hv hg
      rw [← f_do_while_succ] at c2
      refine ⟨m2, vd2, gd2, ?_, h2, k2, l1, l2⟩
      rw [show encS (.while_ row c n b) = .tup [.str "while", .int row, encC c, .int (n : Int), .tup (encB b)] by simp [encS]] at c2 ⊢
      exact stm_while c2
    · cases e'
  | if_ row c a b =>
    simp only [stmP] at e'
    split at e'
    · rename_i hd
      obtain ⟨m2, vd2, gd2, c2, h2, k2, l1, l2⟩ := if_ok (r1 := f_do_call ca k) (r2 := f_do_if ca k) (r3 := f_do_while ca k) (r4 := f_do_statement ca k) hB hM h hp hp0 hp1 hd e' hn hv hg
      rw [← f_do_if_succ] at c2
      refine ⟨m2, vd2, gd2, ?_, h2, k2, l1, l2⟩
      rw [show encS (.if_ row c a b) = .tup [.str "if", .int row, encC c, .tup (encB a), .tup (encB b)] by simp [encS]] at c2 ⊢
      exact stm_if c2
    · cases e'
  | check_ row c =>
    simp only [stmP] at e'
    split at e'
    · rename_i hd
      obtain ⟨w1, r, e1, g1⟩ := chk_ge e'
      have g2 := ask_ge e1
      obtain ⟨m2, c2, h2, k2⟩ := check_ok h hd e' (fun w2 r2 e2 => by rw [e1] at e2; cases e2; omega) (by omega) (by omega)
      refine ⟨m2, vd, gd, ?_, h2, k2, by omega, by omega⟩
      rw [show encS (.check_ row c) = .tup [.str "check", .int row, encC c] by simp [encS]] at c2 ⊢
      exact stm_check c2
    · cases e'
  | call_ row x f as =>
    simp only [stmP] at e'
    cases e1 : tk pl w (.row row) with
    | none => rw [e1] at e'; cases e'
    | some w1 =>
      rw [e1] at e'
      simp only [Option.bind_some] at e'
      have g1 := tk_ge e1
      have g2 := call_mn hM e'
      obtain ⟨m1, c1, h1, k1⟩ := tk_ok h (e := .row row) trivial e1 (by omega)
      obtain ⟨m2, vd2, gd2, c2, h2, k2, l1, l2⟩ := call_ok (r1 := f_do_call ca k) (r2 := f_do_if ca k) (r3 := f_do_while ca k) (r4 := f_do_statement ca k) hB hM h1 (hp.keep k1 hp0 hp1) hp0 hp1 e' hn (by omega) (by omega)
      rw [← f_do_call_succ] at c2
      refine ⟨m2, vd2, gd2, ?_, h2, k1.trans k2, l1, l2⟩
      rw [show encS (.call_ row x f as) = .tup [.str "call", .int row, .str x, .str f, .tup (as.map encE)] by simp [encS]] at c2 ⊢
      obtain ⟨_, _, _, n1, n2, n3⟩ := ne_stm
      exact stm_disp hff s1 s2 n1 n2 n3 c1 (by rw [if_pos rfl]; exact c2)
  | let_ row x g e => exact pln (.let_ row x g e) "let" _ (by rw [encS]; rfl) (by decide +kernel) (by decide +kernel) (by decide +kernel) (by decide +kernel) e'
  | list_ row x n e => exact pln (.list_ row x n e) "list" _ (by rw [encS]; rfl) (by decide +kernel) (by decide +kernel) (by decide +kernel) (by decide +kernel) e'
  | set_ row x e => exact pln (.set_ row x e) "set" _ (by rw [encS]; rfl) (by decide +kernel) (by decide +kernel) (by decide +kernel) (by decide +kernel) e'
  | put_ row x i e => exact pln (.put_ row x i e) "put" _ (by rw [encS]; rfl) (by decide +kernel) (by decide +kernel) (by decide +kernel) (by decide +kernel) e'
  | refuse_ row z => exact pln (.refuse_ row z) "refuse" _ (by rw [encS]; rfl) (by decide +kernel) (by decide +kernel) (by decide +kernel) (by decide +kernel) e'
  | skip_ row => exact pln (.skip_ row) "skip" _ (by rw [encS]; rfl) (by decide +kernel) (by decide +kernel) (by decide +kernel) (by decide +kernel) e'
  | answer_ row e => exact pln (.answer_ row e) "answer" _ (by rw [encS]; rfl) (by decide +kernel) (by decide +kernel) (by decide +kernel) (by decide +kernel) e'
  | return_ row e => exact pln (.return_ row e) "return" _ (by rw [encS]; rfl) (by decide +kernel) (by decide +kernel) (by decide +kernel) (by decide +kernel) e'
theorem stm_zero (F : FF) : StmOK ca pl fns F (runS pl fns 0) := by
  intro n0 m kr ke kw O kf kv kg w w' o vd gd kp s h hp hp0 hp1 e
  cases e
theorem blocks_ok : ∀ (d k : Nat), 3 * d + 1 ≤ k → BlkOK ca pl fns (f_do_block ca k) (runB pl fns d)
  | 0, k + 1, _ => by rw [f_do_block_succ]; exact blk_ok (stm_zero _) (runS_mn 0)
  | d + 1, k + 3, hk => by rw [f_do_block_succ]; exact blk_ok (stm_ok d k (blocks_ok d k (by omega))) (runS_mn (d + 1))
end
end Lk13



namespace Lk13
open PySem L2 M
/-! inputs of a program -/
structure Inp where
  name : Str
  size : Nat
  lo : Int
  hi : Int
def encI (i : Inp) : M.D := .tup [.str i.name, .int (i.size : Int), .int i.lo, .int i.hi]
def prD (p : Int × Int) : M.D := .tup [.int p.1, .int p.2]
def unk : List Inp → List (Int × Int)
  | [] => []
  | i :: is => List.replicate (max 1 i.size) (i.lo, i.hi) ++ unk is
theorem rng_nat {z : Int} {n : Nat} (h : z = n) (hn : n ≤ 1000000) {S : Ms} {f : EF} (e : f S = some (.int z, S)) : iRg1 f S = some (rngD 0 n, S) := by
  have h1 := rng1_ok (z := z) (by omega) (by omega) e
  rw [h1]
  have : z.toNat = n := by omega
  rw [this]
section
variable {ca : Nat → Addr}
theorem unk_in {x0 x2 x3 : M.Slot} {lo hi : Int} {m : List Cell} : ∀ (ds : List M.D) (R : List (Int × Int)) (x6 : M.Slot), R.length + ds.length ≤ 1000000 → ∃ y6, M.forM (gNm 6) (l_Program_unknowns_1 ca) ds ⟨[x0, .val (.lst (R.map prD)), x2, x3, .val (.int lo), .val (.int hi), x6], m⟩ = some (.nx, ⟨[x0, .val (.lst ((R ++ List.replicate ds.length (lo, hi)).map prD)), x2, x3, .val (.int lo), .val (.int hi), y6], m⟩)
  | [], R, x6, _ => ⟨x6, by simp⟩
  | d :: ds, R, x6, h => by
    have h' : R.length + (ds.length + 1) ≤ 1000000 := h
    obtain ⟨y6, e⟩ := unk_in ds (R ++ [(lo, hi)]) (.val d) (by simp; omega)
    refine ⟨y6, ?_⟩
    rw [forM_cons]
    have hr : (R ++ List.replicate (d :: ds).length (lo, hi)) = (R ++ [(lo, hi)]) ++ List.replicate ds.length (lo, hi) := by simp [List.replicate_succ]
    rw [hr, ← e]
    have hs : (R ++ [(lo, hi)]).map prD = R.map prD ++ [.tup [.int lo, .int hi]] := by simp [prD]
    rw [hs]
    have hl : (R.map prD).length ≤ 999999 := by simp; omega
    generalize R.map prD = RD at *
    generalize M.forM (gNm 6) (l_Program_unknowns_1 ca) ds = K
    unfold l_Program_unknowns_1
    simp [hl]
theorem unk_loop {x0 : M.Slot} {m : List Cell} : ∀ (is : List Inp) (R : List (Int × Int)) (x2 x3 x4 x5 x6 : M.Slot), R.length + (unk is).length ≤ 1000 → ∃ y2 y3 y4 y5 y6, M.forM (gTp 4 (gsCons (gNm 2) (gsCons (gNm 3) (gsCons (gNm 4) (gsCons (gNm 5) gsNil))))) (l_Program_unknowns_2 ca) (is.map encI) ⟨[x0, .val (.lst (R.map prD)), x2, x3, x4, x5, x6], m⟩ = some (.nx, ⟨[x0, .val (.lst ((R ++ unk is).map prD)), y2, y3, y4, y5, y6], m⟩)
  | [], R, x2, x3, x4, x5, x6, _ => ⟨x2, x3, x4, x5, x6, by simp [unk]⟩
  | i :: is, R, x2, x3, x4, x5, x6, h => by
    have h' : R.length + (max 1 i.size + (unk is).length) ≤ 1000 := by simpa [unk] using h
    obtain ⟨z6, e1⟩ := unk_in (ca := ca) (x0 := x0) (x2 := .val (.str i.name)) (x3 := .val (.int (i.size : Int))) (lo := i.lo) (hi := i.hi) (m := m) (rngD 0 (max 1 i.size)) R x6 (by simp [rngD]; omega)
    rw [show (rngD 0 (max 1 i.size)).length = max 1 i.size by simp [rngD]] at e1
    obtain ⟨y2, y3, y4, y5, y6, e⟩ := unk_loop is (R ++ List.replicate (max 1 i.size) (i.lo, i.hi)) (.val (.str i.name)) (.val (.int (i.size : Int))) (.val (.int i.lo)) (.val (.int i.hi)) z6 (by simp; omega)
    refine ⟨y2, y3, y4, y5, y6, ?_⟩
    have hu : R ++ unk (i :: is) = R ++ List.replicate (max 1 i.size) (i.lo, i.hi) ++ unk is := by simp [unk]
    rw [List.map_cons, forM_cons, hu, ← e]
    have hz : (if (i.size : Int) > 1 then (i.size : Int) else 1) = ((max 1 i.size : Nat) : Int) := by
      by_cases c : i.size > 1
      · rw [if_pos (by omega)]; omega
      · rw [if_neg (by omega)]; omega
    have hrg := rng_nat (S := ⟨[x0, .val (.lst (R.map prD)), .val (.str i.name), .val (.int (i.size : Int)), .val (.int i.lo), .val (.int i.hi), x6], m⟩) (f := eCalls gMax2 (aCons (eC (.int 1)) (aCons (eVar 3) aNil))) hz (by omega) (by simp)
    generalize M.forM (gTp 4 (gsCons (gNm 2) (gsCons (gNm 3) (gsCons (gNm 4) (gsCons (gNm 5) gsNil))))) (l_Program_unknowns_2 ca) (is.map encI) = K at *
    generalize (R ++ List.replicate (max 1 i.size) (i.lo, i.hi)).map prD = R2 at *
    generalize rngD 0 (max 1 i.size) = RG at *
    unfold encI l_Program_unknowns_2
    generalize l_Program_unknowns_1 ca = ll at *
    generalize eCalls gMax2 (aCons (eC (.int 1)) (aCons (eVar 3) aNil)) = ff at *
    generalize R.map prD = RD at *
    generalize iRg1 ff = ir at *
    simp [hrg, e1]
theorem unk_ok {m : List Cell} {kp : Nat} {fs : List (Str × M.D)} {is : List Inp} (h1 : m[kp]? = some (.obj (ca 3) fs)) (h2 : lkD "inputs" fs = some (.tup (is.map encI))) (hl : (unk is).length ≤ 1000) : f_Program_unknowns ca [.ref kp] m = some (.lst ((unk is).map prD), m) := by
  obtain ⟨y2, y3, y4, y5, y6, e⟩ := unk_loop (ca := ca) (x0 := .val (.ref kp)) (m := m) is [] .emp .emp .emp .emp .emp (by simpa using hl)
  simp only [List.map_nil, List.nil_append] at e
  unfold f_Program_unknowns b_Program_unknowns
  generalize l_Program_unknowns_2 ca = ll at *
  generalize (unk is).map prD = U at *
  generalize is.map encI = IS at *
  simp [fnM_ap, h1, h2, e]
theorem isint_ok (i : Int) (m : List Cell) : f_is_integer [.int i] m = some (.bl true, m) := by
  unfold f_is_integer b_is_integer
  simp [fnM_ap]
def inR : List Int → List (Int × Int) → Bool
  | x :: xs, p :: ps => decide (p.1 ≤ x) && decide (x ≤ p.2) && inR xs ps
  | [], [] => true
  | _, _ => false
theorem inR_len : ∀ {xs : List Int} {ps : List (Int × Int)}, inR xs ps = true → xs.length = ps.length
  | [], [], _ => rfl
  | x :: xs, p :: ps, h => by
    simp only [inR, Bool.and_eq_true] at h
    simp [inR_len h.2]
  | [], _ :: _, h => by cases h
  | _ :: _, [], h => by cases h
theorem isin_loop {x0 x1 x2 : M.Slot} {m : List Cell} : ∀ (xs : List Int) (ps : List (Int × Int)) (x3 x4 x5 : M.Slot), inR xs ps = true → ∃ y3 y4 y5, M.forM (gTp 2 (gsCons (gNm 3) (gsCons (gTp 2 (gsCons (gNm 4) (gsCons (gNm 5) gsNil))) gsNil))) (l_is_input_1 ca) (zpD (I xs) (ps.map prD)) ⟨[x0, x1, x2, x3, x4, x5], m⟩ = some (.nx, ⟨[x0, x1, x2, y3, y4, y5], m⟩)
  | [], [], x3, x4, x5, _ => ⟨x3, x4, x5, rfl⟩
  | x :: xs, p :: ps, x3, x4, x5, h => by
    simp only [inR, Bool.and_eq_true, decide_eq_true_eq] at h
    obtain ⟨⟨h1, h2⟩, h3⟩ := h
    obtain ⟨y3, y4, y5, e⟩ := isin_loop xs ps (.val (.int x)) (.val (.int p.1)) (.val (.int p.2)) h3
    refine ⟨y3, y4, y5, ?_⟩
    rw [show I (x :: xs) = .int x :: I xs from rfl, List.map_cons, zpD_cons, forM_cons, ← e]
    have hi := isint_ok x m
    generalize f_is_integer = fi at *
    unfold prD
    generalize M.forM (gTp 2 (gsCons (gNm 3) (gsCons (gTp 2 (gsCons (gNm 4) (gsCons (gNm 5) gsNil))) gsNil))) (l_is_input_1 ca) (zpD (I xs) (ps.map fun p => M.D.tup [.int p.1, .int p.2])) = K
    have hi2 : f_is_integer [.int x] m = some (.bl true, m) := isint_ok x m
    unfold l_is_input_1
    generalize f_is_integer = fi2 at *
    simp [eChain, hi2, h1, h2]
theorem isin_ok {m : List Cell} {kp : Nat} {fs : List (Str × M.D)} {is : List Inp} {xs : List Int} (h1 : m[kp]? = some (.obj (ca 3) fs)) (h2 : lkD "inputs" fs = some (.tup (is.map encI))) (hl : (unk is).length ≤ 1000) (hx : inR xs (unk is) = true) : f_is_input ca [.ref kp, .lst (I xs)] m = some (.bl true, m) := by
  have hu := unk_ok h1 h2 hl
  have hlen := inR_len hx
  obtain ⟨y3, y4, y5, e⟩ := isin_loop (ca := ca) (x0 := .val (.ref kp)) (x1 := .val (.lst (I xs))) (x2 := .val (.lst ((unk is).map prD))) (m := m) xs (unk is) .emp .emp .emp hx
  have hl1 : (I xs).length = xs.length := by simp [I]
  have hl2 : ((unk is).map prD).length = xs.length := by simp [hlen]
  have hisi : gIsi2 "list" "tuple" (.lst (I xs)) = some (.bl true) := by
    unfold gIsi2 tyName
    simp [show kitB "list" "list" = some true by decide +kernel]
  unfold f_is_input b_is_input t_is_input_2 t_is_input_1
  generalize l_is_input_1 ca = ll at *
  generalize f_Program_unknowns ca = fu at *
  generalize I xs = XS at *
  generalize (unk is).map prD = US at *
  simp [fnM_ap, h1, hu, hisi, hl1, hl2, e]
end
end Lk13



namespace Lk13
open PySem L2 M
/-! the variables that the inputs are -/
noncomputable def inV : List Inp → List Int → Vs → Vs
  | [], _, V => V
  | i :: is, xs, V => if i.size = 0 then (match xs with
    | x :: r => inV is r (setV V i.name (.int x))
    | [] => V) else inV is (xs.drop i.size) (setV V i.name (.lst (xs.take i.size)))
structure InV (m : List Cell) (kv : Nat) (V : Vs) (vd : List (Key × M.D)) : Prop where
  v : m[kv]? = some (.dct vd)
  vr : VR m vd V
  inj : ∀ x y k, lkK vd x = some (.ref k) → lkK vd y = some (.ref k) → x = y
  lo : ∀ x k, lkK vd x = some (.ref k) → kv < k ∧ k < m.length
theorem InV.put {m : List Cell} {kv : Nat} {V : Vs} {vd : List (Key × M.D)} (h : InV m kv V vd) (x : Str) (i : Int) : InV (m.set kv (.dct (ptK vd (.inr x) (.int i)))) kv (setV V x (.int i)) (ptK vd (.inr x) (.int i)) := by
  have hkv : kv < m.length := (List.getElem?_eq_some_iff.mp h.v).1
  refine ⟨List.getElem?_set_self hkv, fun y => ?_, fun y z k e1 e2 => ?_, fun y k e => ?_⟩
  · unfold setV
    by_cases q : y = x
    · subst q
      rw [if_pos rfl]
      show lkK _ _ = _
      rw [lk_pt, if_pos rfl]
    · rw [if_neg q]
      have hne : ¬ (Sum.inr y : Key) = .inr x := fun z => q (Sum.inr.inj z)
      have hy := h.vr y
      cases hv : V y with
      | none => rw [hv] at hy; show lkK _ _ = _; rw [lk_pt, if_neg hne]; exact hy
      | some w =>
        rw [hv] at hy
        cases w with
        | int j => show lkK _ _ = _; rw [lk_pt, if_neg hne]; exact hy
        | lst l =>
          obtain ⟨h1, k, h2, h3⟩ := hy
          refine ⟨h1, k, by rw [lk_pt, if_neg hne]; exact h2, ?_⟩
          rw [List.getElem?_set_ne (by have := (h.lo _ _ h2).1; omega)]
          exact h3
  · rw [lk_pt] at e1 e2
    split at e1
    · cases e1
    · split at e2
      · cases e2
      · exact h.inj _ _ _ e1 e2
  · rw [lk_pt] at e
    rw [List.length_set]
    split at e
    · cases e
    · exact h.lo _ _ e
theorem InV.putL {m : List Cell} {kv : Nat} {V : Vs} {vd : List (Key × M.D)} (h : InV m kv V vd) (x : Str) (l : List Int) (hL : l.length ≤ 1000) : InV ((m ++ [Cell.lst (I l)]).set kv (.dct (ptK vd (.inr x) (.ref m.length)))) kv (setV V x (.lst l)) (ptK vd (.inr x) (.ref m.length)) := by
  have hkv : kv < m.length := (List.getElem?_eq_some_iff.mp h.v).1
  have old : ∀ k, k < m.length → k ≠ kv → ((m ++ [Cell.lst (I l)]).set kv (.dct (ptK vd (.inr x) (.ref m.length))))[k]? = m[k]? := fun k hk hne => by
    rw [List.getElem?_set_ne (Ne.symm hne), List.getElem?_append_left hk]
  refine ⟨List.getElem?_set_self (by simp; omega), fun y => ?_, fun y z k e1 e2 => ?_, fun y k e => ?_⟩
  · unfold setV
    by_cases q : y = x
    · subst q
      rw [if_pos rfl]
      refine ⟨hL, m.length, by rw [lk_pt, if_pos rfl], ?_⟩
      rw [List.getElem?_set_ne (by omega)]
      simp
    · rw [if_neg q]
      have hne : ¬ (Sum.inr y : Key) = .inr x := fun z => q (Sum.inr.inj z)
      have hy := h.vr y
      cases hv : V y with
      | none => rw [hv] at hy; show lkK _ _ = _; rw [lk_pt, if_neg hne]; exact hy
      | some w =>
        rw [hv] at hy
        cases w with
        | int j => show lkK _ _ = _; rw [lk_pt, if_neg hne]; exact hy
        | lst l' =>
          obtain ⟨h1, k, h2, h3⟩ := hy
          refine ⟨h1, k, by rw [lk_pt, if_neg hne]; exact h2, ?_⟩
          have hlo := h.lo _ _ h2
          rw [old k hlo.2 (by omega)]
          exact h3
  · rw [lk_pt] at e1 e2
    split at e1
    · rename_i a
      cases e1
      split at e2
      · rename_i b; rw [a, b]
      · have := (h.lo _ _ e2).2; omega
    · split at e2
      · cases e2; have := (h.lo _ _ e1).2; omega
      · exact h.inj _ _ _ e1 e2
  · rw [lk_pt] at e
    rw [List.length_set, List.length_append, List.length_singleton]
    split at e
    · cases e; omega
    · have := h.lo _ _ e; omega
theorem cut_I (ds : List Int) (a b : Nat) (ha : a ≤ ds.length) (hb : b ≤ ds.length) : cutD (I ds) (some (a : Int)) (some (b : Int)) = I ((ds.drop a).take (b - a)) := by
  unfold cutD
  have hl : (I ds).length = ds.length := by simp [I]
  rw [hl, HT.sIx_nat, HT.sIx_nat, Nat.min_eq_left ha, Nat.min_eq_left hb]
  simp [I, List.map_drop, List.map_take]
/-- the inputs as a tuple or as a list -/
def sq (t : Bool) (xs : List M.D) : M.D := if t = true then .tup xs else .lst xs
theorem vw_sq (t : Bool) (xs : List M.D) (S0 : Ms) : vw S0 (sq t xs) = sq t xs := by cases t <;> rfl
section
variable {ca : Nat → Addr} {t : Bool}
theorem inv_step0 {m : List Cell} {kv at_ : Nat} {x0 x5 : M.Slot} {vd : List (Key × M.D)} {XS : List M.D} {x : Str} {lo hi v : Int} (hv : m[kv]? = some (.dct vd)) (hl : vd.length < 1000000) (hx : atI XS (at_ : Int) = some (.int v)) :
    l_input_variables_1 ca ⟨[x0, .val (sq t XS), .val (.ref kv), .val (.int (at_ : Int)), .val (.str x), .val (.int 0), .val (.int lo), .val (.int hi)], m⟩ = some (.nx, ⟨[x0, .val (sq t XS), .val (.ref kv), .val (.int ((at_ + 1 : Nat) : Int)), .val (.str x), .val (.int 0), .val (.int lo), .val (.int hi)], m.set kv (.dct (ptK vd (.inr x) (.int v)))⟩) := by
  unfold l_input_variables_1 sAug sq
  cases t <;> simp [hx, hv, hl]
theorem inv_step1 {m : List Cell} {kv at_ n : Nat} {x0 : M.Slot} {vd : List (Key × M.D)} {XS L : List M.D} {x : Str} {lo hi : Int} (hv : m[kv]? = some (.dct vd)) (hl : vd.length < 1000000) (hn : n ≠ 0) (hx : cutD XS (some (at_ : Int)) (some ((at_ : Int) + (n : Int))) = L) :
    l_input_variables_1 ca ⟨[x0, .val (sq t XS), .val (.ref kv), .val (.int (at_ : Int)), .val (.str x), .val (.int (n : Int)), .val (.int lo), .val (.int hi)], m⟩ = some (.nx, ⟨[x0, .val (sq t XS), .val (.ref kv), .val (.int ((at_ + n : Nat) : Int)), .val (.str x), .val (.int (n : Int)), .val (.int lo), .val (.int hi)], (m ++ [Cell.lst L]).set kv (.dct (ptK vd (.inr x) (.ref m.length)))⟩) := by
  have hkv : kv < m.length := (List.getElem?_eq_some_iff.mp hv).1
  have hv2 : (m ++ [Cell.lst L])[kv]? = some (.dct vd) := by rw [List.getElem?_append_left hkv]; exact hv
  unfold l_input_variables_1 sAug sq
  cases t <;> simp [hx, hv2, hl, hn]
theorem inv_loop {kv : Nat} {xs : List Int} {x0 : M.Slot} : ∀ (is : List Inp) (at_ : Nat) {m : List Cell} {V : Vs} {vd : List (Key × M.D)} (x4 x5 x6 x7 : M.Slot), InV m kv V vd → at_ + (unk is).length = xs.length → xs.length ≤ 1000 → vd.length + is.length ≤ 1000 →
    ∃ m' vd' y3 y4 y5 y6 y7, M.forM (gTp 4 (gsCons (gNm 4) (gsCons (gNm 5) (gsCons (gNm 6) (gsCons (gNm 7) gsNil))))) (l_input_variables_1 ca) (is.map encI) ⟨[x0, .val (sq t (I xs)), .val (.ref kv), .val (.int (at_ : Int)), x4, x5, x6, x7], m⟩ = some (.nx, ⟨[x0, .val (sq t (I xs)), .val (.ref kv), y3, y4, y5, y6, y7], m'⟩) ∧ InV m' kv (inV is (xs.drop at_) V) vd' ∧ Kp kv [] m m' ∧ vd'.length ≤ vd.length + is.length := by
  intro is
  induction is with
  | nil =>
    intro at_ m V vd x4 x5 x6 x7 h _ _ _
    exact ⟨m, vd, _, x4, x5, x6, x7, rfl, h, Kp.refl, Nat.le_add_right _ _⟩
  | cons i is ih =>
    intro at_ m V vd x4 x5 x6 x7 h hat hxs hvd
    have hat' : at_ + (max 1 i.size + (unk is).length) = xs.length := by simpa [unk] using hat
    have hvd' : vd.length + (is.length + 1) ≤ 1000 := by simpa using hvd
    have hkv : kv < m.length := (List.getElem?_eq_some_iff.mp h.v).1
    by_cases hz : i.size = 0
    · have hlt : at_ < xs.length := by omega
      have hdrop : xs.drop at_ = xs[at_] :: xs.drop (at_ + 1) := List.drop_eq_getElem_cons hlt
      have hget : atI (I xs) (at_ : Int) = some (.int xs[at_]) := by
        rw [atI_pos (Int.natCast_nonneg _) (by simp [I]; omega)]
        simp [I, hlt]
      have hpt := pt_len (kds := vd) (k := .inr i.name) (d := .int xs[at_])
      have st := inv_step0 (ca := ca) (t := t) (x0 := x0) (x5 := x5) (x := i.name) (lo := i.lo) (hi := i.hi) h.v (by omega) hget
      obtain ⟨m', vd', y3, y4, y5, y6, y7, e, h2, k2, l2⟩ := ih (at_ + 1) (.val (.str i.name)) (.val (.int 0)) (.val (.int i.lo)) (.val (.int i.hi)) (h.put i.name xs[at_]) (by omega) hxs (by omega)
      have hinv : inV (i :: is) (xs.drop at_) V = inV is (xs.drop (at_ + 1)) (setV V i.name (.int xs[at_])) := by
        rw [hdrop]; simp [inV, hz]
      refine ⟨m', vd', y3, y4, y5, y6, y7, ?_, by rw [hinv]; exact h2, (Kp.refl.set (Nat.le_refl _)).trans k2, by simp; omega⟩
      rw [List.map_cons, forM_cons, ← e]
      have hen : encI i = .tup [.str i.name, .int 0, .int i.lo, .int i.hi] := by unfold encI; rw [hz]; rfl
      rw [hen]
      generalize M.forM (gTp 4 (gsCons (gNm 4) (gsCons (gNm 5) (gsCons (gNm 6) (gsCons (gNm 7) gsNil))))) (l_input_variables_1 ca) (is.map encI) = K
      generalize l_input_variables_1 ca = ll at *
      clear e h2 ih hinv hget hdrop
      generalize I xs = XS at *
      simp [st]
    · have hmax : max 1 i.size = i.size := by omega
      rw [hmax] at hat'
      have hcut : cutD (I xs) (some (at_ : Int)) (some ((at_ : Int) + (i.size : Int))) = I ((xs.drop at_).take i.size) := by
        rw [show ((at_ : Int) + (i.size : Int)) = ((at_ + i.size : Nat) : Int) by omega, cut_I _ _ _ (by omega) (by omega), show at_ + i.size - at_ = i.size by omega]
      have hpt := pt_len (kds := vd) (k := .inr i.name) (d := .ref m.length)
      have st := inv_step1 (ca := ca) (t := t) (x0 := x0) (x := i.name) (lo := i.lo) (hi := i.hi) h.v (by omega) hz hcut
      obtain ⟨m', vd', y3, y4, y5, y6, y7, e, h2, k2, l2⟩ := ih (at_ + i.size) (.val (.str i.name)) (.val (.int (i.size : Int))) (.val (.int i.lo)) (.val (.int i.hi)) (h.putL i.name ((xs.drop at_).take i.size) (by simp; omega)) (by omega) hxs (by omega)
      have hinv : inV (i :: is) (xs.drop at_) V = inV is (xs.drop (at_ + i.size)) (setV V i.name (.lst ((xs.drop at_).take i.size))) := by
        simp [inV, hz, List.drop_drop]
      refine ⟨m', vd', y3, y4, y5, y6, y7, ?_, by rw [hinv]; exact h2, (Kp.refl.app.set (Nat.le_refl _)).trans k2, by simp; omega⟩
      rw [List.map_cons, forM_cons, ← e]
      have hen : encI i = .tup [.str i.name, .int (i.size : Int), .int i.lo, .int i.hi] := rfl
      rw [hen]
      generalize M.forM (gTp 4 (gsCons (gNm 4) (gsCons (gNm 5) (gsCons (gNm 6) (gsCons (gNm 7) gsNil))))) (l_input_variables_1 ca) (is.map encI) = K
      generalize l_input_variables_1 ca = ll at *
      clear e h2 ih hinv hcut
      generalize I ((xs.drop at_).take i.size) = CC at *
      generalize I xs = XS at *
      simp [st]
theorem inv_ok {m : List Cell} {kp : Nat} {fs : List (Str × M.D)} {is : List Inp} {xs : List Int} (h1 : m[kp]? = some (.obj (ca 3) fs)) (h2 : lkD "inputs" fs = some (.tup (is.map encI))) (hl : (unk is).length ≤ 1000) (hx : xs.length = (unk is).length) (hi : is.length ≤ 1000) : ∃ m' vd, f_input_variables ca [.ref kp, sq t (I xs)] m = some (.ref m.length, m') ∧ InV m' m.length (inV is xs (fun _ => none)) vd ∧ Kp m.length [] m m' ∧ vd.length ≤ is.length := by
  have h0 : InV (m ++ [.dct []]) m.length (fun _ => none) [] := ⟨get_last, fun _ => rfl, fun x y k e => (by cases e), fun x k e => (by cases e)⟩
  obtain ⟨m', vd', y3, y4, y5, y6, y7, e, h2', k2, l2⟩ := inv_loop (ca := ca) (t := t) (x0 := .val (.ref kp)) (xs := xs) is 0 .emp .emp .emp .emp h0 (by omega) (by omega) (by simpa using hi)
  refine ⟨m', vd', ?_, by simpa using h2', Kp.refl.app.trans k2, by simpa using l2⟩
  have hkp : kp < m.length := (List.getElem?_eq_some_iff.mp h1).1
  have h1' : (m ++ [Cell.dct []])[kp]? = some (.obj (ca 3) fs) := by rw [List.getElem?_append_left hkp]; exact h1
  unfold f_input_variables b_input_variables t_input_variables_2 t_input_variables_1
  generalize l_input_variables_1 ca = ll at *
  generalize is.map encI = IS at *
  generalize I xs = XS at *
  rw [show ((0 : Nat) : Int) = 0 from rfl] at e
  simp [fnM_ap, h1', h2, e]
end
end Lk13



namespace Lk13
open PySem L2 M
/-! what is an input, what is none -/
def isI : M.D → Bool
  | .int _ => true
  | _ => false
def Kd : M.D → Prop
  | .int _ | .str _ | .non | .lst _ => True
  | _ => False
def okE (d : M.D) (p : Int × Int) : Bool := match d with
  | .int x => decide (p.1 ≤ x) && decide (x ≤ p.2)
  | _ => false
def okR : List M.D → List (Int × Int) → Bool
  | d :: ds, p :: ps => okE d p && okR ds ps
  | _, _ => true
section
variable {ca : Nat → Addr} {t : Bool}
theorem isint_any {d : M.D} (h : Kd d) (m : List Cell) : f_is_integer [d] m = some (.bl (isI d), m) := by
  unfold f_is_integer b_is_integer
  cases d <;> first | exact h.elim | simp [fnM_ap, isI]
theorem isin_any {x0 x1 x2 : M.Slot} {m : List Cell} : ∀ (ds : List M.D) (ps : List (Int × Int)) (x3 x4 x5 : M.Slot), (∀ d ∈ ds, Kd d) → ∃ y3 y4 y5, M.forM (gTp 2 (gsCons (gNm 3) (gsCons (gTp 2 (gsCons (gNm 4) (gsCons (gNm 5) gsNil))) gsNil))) (l_is_input_1 ca) (zpD ds (ps.map prD)) ⟨[x0, x1, x2, x3, x4, x5], m⟩ = some (if okR ds ps = true then .nx else .rt (.bl false), ⟨[x0, x1, x2, y3, y4, y5], m⟩)
  | [], ps, x3, x4, x5, _ => ⟨x3, x4, x5, by simp [okR]⟩
  | d :: ds, [], x3, x4, x5, _ => ⟨x3, x4, x5, by simp [okR]⟩
  | d :: ds, p :: ps, x3, x4, x5, hk => by
    have hd := hk d (by simp)
    have hi := isint_any hd m
    rw [List.map_cons, zpD_cons]
    rw [forM_cons]
    by_cases c : okE d p = true
    · obtain ⟨y3, y4, y5, e⟩ := isin_any ds ps (.val d) (.val (.int p.1)) (.val (.int p.2)) (fun z hz => hk z (List.mem_cons_of_mem _ hz))
      refine ⟨y3, y4, y5, ?_⟩
      have hok : okR (d :: ds) (p :: ps) = okR ds ps := by simp [okR, c]
      rw [hok, ← e]
      generalize M.forM (gTp 2 (gsCons (gNm 3) (gsCons (gTp 2 (gsCons (gNm 4) (gsCons (gNm 5) gsNil))) gsNil))) (l_is_input_1 ca) (zpD ds (ps.map prD)) = K
      unfold prD l_is_input_1
      generalize f_is_integer = fi at *
      cases d with
      | int x =>
        simp only [okE, Bool.and_eq_true, decide_eq_true_eq] at c
        simp [eChain, hi, isI, c.1, c.2]
      | _ => simp [okE] at c
    · refine ⟨.val d, .val (.int p.1), .val (.int p.2), ?_⟩
      have hok : okR (d :: ds) (p :: ps) = false := by simp [okR, c]
      rw [hok]
      generalize M.forM (gTp 2 (gsCons (gNm 3) (gsCons (gTp 2 (gsCons (gNm 4) (gsCons (gNm 5) gsNil))) gsNil))) (l_is_input_1 ca) (zpD ds (ps.map prD)) = K
      unfold prD l_is_input_1
      generalize f_is_integer = fi at *
      cases d with
      | int x =>
        simp only [okE, Bool.and_eq_true, decide_eq_true_eq] at c
        by_cases c1 : p.1 ≤ x
        · have c2 : ¬ x ≤ p.2 := fun z => c ⟨c1, z⟩
          simp [eChain, hi, isI, c1, c2]
        · simp [eChain, hi, isI, c1]
      | str x => simp [eChain, hi, isI]
      | non => simp [eChain, hi, isI]
      | lst x => simp [eChain, hi, isI]
      | _ => exact hd.elim
theorem isi2_sq (xs : List M.D) : gIsi2 "list" "tuple" (sq t xs) = some (.bl true) := by
  cases t
  · show (some _ : Option _).bind _ = _
    simp [sq, gIsi2, tyName, show kitB "list" "list" = some true by decide +kernel]
  · simp [sq, gIsi2, tyName, show kitB "tuple" "list" = some false by decide +kernel, show kitB "tuple" "tuple" = some true by decide +kernel]
theorem isin_all {m : List Cell} {kp : Nat} {fs : List (Str × M.D)} {is : List Inp} {ds : List M.D} (h1 : m[kp]? = some (.obj (ca 3) fs)) (h2 : lkD "inputs" fs = some (.tup (is.map encI))) (hl : (unk is).length ≤ 1000) (hk : ∀ d ∈ ds, Kd d) : f_is_input ca [.ref kp, sq t ds] m = some (.bl (decide (ds.length = (unk is).length) && okR ds (unk is)), m) := by
  have hu := unk_ok h1 h2 hl
  obtain ⟨y3, y4, y5, e⟩ := isin_any (ca := ca) (x0 := .val (.ref kp)) (x1 := .val (sq t ds)) (x2 := .val (.lst ((unk is).map prD))) (m := m) ds (unk is) .emp .emp .emp hk
  have hl2 : ((unk is).map prD).length = (unk is).length := by simp
  have hisi := isi2_sq (t := t) ds
  have hlen : gLen (sq t ds) = some (.int (ds.length : Int)) := by cases t <;> rfl
  have hz : zipD2 (sq t ds) (.lst ((unk is).map prD)) = some (zpD ds ((unk is).map prD)) := by cases t <;> rfl
  have hvs := vw_sq t ds
  generalize okR ds (unk is) = B at *
  generalize (unk is).length = U at *
  unfold f_is_input b_is_input t_is_input_2 t_is_input_1
  generalize l_is_input_1 ca = ll at *
  generalize f_Program_unknowns ca = fu at *
  generalize sq t ds = SQ at *
  generalize zpD ds ((unk is).map prD) = ZZ at *
  generalize (unk is).map prD = US at *
  by_cases c : ds.length = U
  · cases B with
    | true => simp at e; simp [fnM_ap, h1, hu, hisi, hlen, hl2, hz, hvs, e, c]
    | false => simp at e; simp [fnM_ap, h1, hu, hisi, hlen, hl2, hz, hvs, e, c]
  · have c' : ¬ ((ds.length : Int) = (U : Int)) := by omega
    simp [fnM_ap, h1, hu, hisi, hlen, hl2, hvs, c, c']
theorem isin_not {m : List Cell} {kp : Nat} {fs : List (Str × M.D)} {is : List Inp} {d : M.D} (h1 : m[kp]? = some (.obj (ca 3) fs)) (h2 : lkD "inputs" fs = some (.tup (is.map encI))) (hl : (unk is).length ≤ 1000) (hk : d = .non ∨ (∃ s, d = .str s) ∨ d = .dct []) : f_is_input ca [.ref kp, d] m = some (.bl false, m) := by
  have hu := unk_ok h1 h2 hl
  have hisi : gIsi2 "list" "tuple" d = some (.bl false) := by
    rcases hk with rfl | ⟨s, rfl⟩ | rfl
    · simp [gIsi2, tyName, show kitB "NoneType" "list" = some false by decide +kernel, show kitB "NoneType" "tuple" = some false by decide +kernel]
    · simp [gIsi2, tyName, show kitB "str" "list" = some false by decide +kernel, show kitB "str" "tuple" = some false by decide +kernel]
    · simp [gIsi2, tyName, show kitB "dict" "list" = some false by decide +kernel, show kitB "dict" "tuple" = some false by decide +kernel]
  have hvs : ∀ S0 : Ms, vw S0 d = d := fun S0 => by rcases hk with rfl | ⟨s, rfl⟩ | rfl <;> rfl
  unfold f_is_input b_is_input t_is_input_2
  generalize t_is_input_1 ca = tl
  generalize f_Program_unknowns ca = fu at *
  generalize (unk is).map prD = US at *
  revert tl; refine opq ?_; intro tl
  simp [fnM_ap, h1, hu, hisi, hvs]
theorem okR_I : ∀ {xs : List Int} {ps : List (Int × Int)}, inR xs ps = true → okR (I xs) ps = true
  | [], [], _ => rfl
  | x :: xs, p :: ps, h => by
    simp only [inR, Bool.and_eq_true] at h
    rw [show I (x :: xs) = .int x :: I xs from rfl]
    simp only [okR, okE, Bool.and_eq_true]
    exact ⟨h.1, okR_I h.2⟩
  | [], _ :: _, h => by cases h
  | _ :: _, [], h => by cases h
theorem isin_ok' {m : List Cell} {kp : Nat} {fs : List (Str × M.D)} {is : List Inp} {xs : List Int} (h1 : m[kp]? = some (.obj (ca 3) fs)) (h2 : lkD "inputs" fs = some (.tup (is.map encI))) (hl : (unk is).length ≤ 1000) (hx : inR xs (unk is) = true) : f_is_input ca [.ref kp, sq t (I xs)] m = some (.bl true, m) := by
  have h := isin_all (t := t) h1 h2 hl (ds := I xs) (fun d hd => by obtain ⟨x, _, rfl⟩ := List.mem_map.mp hd; trivial)
  rw [okR_I hx, show (I xs).length = (unk is).length by rw [← inR_len hx]; simp [I]] at h
  simpa using h
end
end Lk13



namespace Lk13
open PySem L2 M
/-! drawing, the hand, the same (the drawing's part as in Lk10d, the same as in Lk02k) -/
@[simp] theorem I_len (ns : List Int) : (I ns).length = ns.length := by simp [I]
theorem I_cons (n : Int) (ns : List Int) : I (n :: ns) = .int n :: I ns := rfl
theorem I_app (a b : List Int) : I (a ++ b) = I a ++ I b := by simp [I]
theorem atI_I {ns : List Int} {i : Int} (h0 : 0 ≤ i) (h : i < ns.length) : ∃ x, atI (I ns) i = some (.int x) ∧ ns[i.toNat]? = some x := by
  rw [atI_pos h0 (by simpa using h)]
  have hl : i.toNat < ns.length := by omega
  exact ⟨ns[i.toNat], by simp [I, hl], by simp [hl]⟩
theorem atI_In {ns : List Int} {i : Nat} {x : Int} (h : ns[i]? = some x) : atI (I ns) (i : Int) = some (.int x) := by
  have hl := (List.getElem?_eq_some_iff.mp h).1
  rw [atI_pos (Int.natCast_nonneg _) (by simpa using hl)]
  simp [I, h]
theorem set_I (vs : List Int) (k : Nat) (x : Int) : (I vs).set k (.int x) = I (vs.set k x) := by
  simp [I, List.map_set]
theorem iRg1_step {f : EF} {S S' : Ms} {n : Nat} (h : f S = some (.int (n : Int), S')) (hn : n ≤ 1000000) : iRg1 f S = some ((List.range n).map (fun j : Nat => M.D.int (j : Int)), S') := by
  rw [iRg1_ap, h]
  simp only [Option.bind_some]
  rw [if_pos (by omega), show ((n : Int)).toNat = n by omega]
  unfold rngD
  simp
theorem pow18 : gPow (.int 10) (.int 18) = some (.int 1000000000000000000) := by rw [gPow_int, if_pos (by decide)]; rfl
/-! the draws: any ints -/
theorem mix_ok (a b c x6 x7 : M.Slot) (acc : List Int) (k cell : Int) (m : List Cell) (hl : acc.length < 1000000) : ∃ v y7, t_law_draws_2 ⟨[a, b, c, .own (.lst (I acc)), .val (.int k), .val (.int cell), x6, x7], m⟩ = some (.nx, ⟨[a, b, c, .own (.lst (I (acc ++ [v]))), .val (.int k), .val (.int cell), x6, y7], m⟩) := by
  have h1 : ∀ x : Int, (-18446744073709551616 < x % 2147483647 ∧ x % 2147483647 < 18446744073709551616) := fun x => by omega
  have h2 : ∀ x : Int, (-18446744073709551616 < x % 2147483629 ∧ x % 2147483629 < 18446744073709551616) := fun x => by omega
  have e : ∀ v : Int, I (acc ++ [v]) = I acc ++ [.int v] := fun v => by simp [I]
  simp only [t_law_draws_2_ap, t_law_draws_1_ap]
  simp [h1, h2, hl, e]
theorem draws_step (ns rests acc : List Int) (k : Nat) (n : Int) (hr : rests.length = ns.length) (hl : acc.length < 1000000) (s5 s6 s7 : M.Slot) (m : List Cell) :
    ∃ (rests' acc' : List Int) (t5 t6 t7 : M.Slot), rests'.length = ns.length ∧ acc'.length = acc.length + 1 ∧
      (l_law_draws_1 ⟨[.val (.sc (I ns)), .val (.int n), .own (.lst (I rests)), .own (.lst (I acc)), .val (.int k), s5, s6, s7], m⟩ = some (.nx, ⟨[.val (.sc (I ns)), .val (.int n), .own (.lst (I rests')), .own (.lst (I acc')), .val (.int k), t5, t6, t7], m⟩) ∨
      l_law_draws_1 ⟨[.val (.sc (I ns)), .val (.int n), .own (.lst (I rests)), .own (.lst (I acc)), .val (.int k), s5, s6, s7], m⟩ = some (.ct, ⟨[.val (.sc (I ns)), .val (.int n), .own (.lst (I rests')), .own (.lst (I acc')), .val (.int k), t5, t6, t7], m⟩)) := by
  by_cases h : 0 < ns.length
  · have i0 : 0 ≤ (k : Int) % (ns.length : Int) := Int.emod_nonneg _ (by omega)
    have i1 : (k : Int) % (ns.length : Int) < ns.length := Int.emod_lt_of_pos _ (by omega)
    obtain ⟨x, hx, _⟩ := atI_I (ns := ns) i0 i1
    obtain ⟨y, hy, _⟩ := atI_I (ns := rests) i0 (by omega)
    have hix : ixN rests.length ((k : Int) % (ns.length : Int)) = some ((k : Int) % (ns.length : Int)).toNat := ixN_pos i0 (by omega)
    by_cases c : 1000000000000000000 ≤ x ∧ 0 < y
    · refine ⟨rests.set ((k : Int) % (ns.length : Int)).toNat (y / 1000003), acc ++ [y % 1000003], .val (.int x), .val (.int ((k : Int) % (ns.length : Int))), s7, by simp [hr], by simp, .inr ?_⟩
      have e : I (acc ++ [y % 1000003]) = I acc ++ [.int (y % 1000003)] := by simp [I]
      unfold l_law_draws_1
      simp only [sSeq_ap, t_law_draws_3_ap]
      generalize t_law_draws_2 = tl
      revert tl
      refine opq ?_
      intro tl
      simp [h, hx, hy, pow18, c, hl, hix, set_I, e]
    · obtain ⟨v, y7, em⟩ := mix_ok (.val (.sc (I ns))) (.val (.int n)) (.own (.lst (I rests))) (.val (.int ((k : Int) % (ns.length : Int)))) s7 acc k x m hl
      refine ⟨rests, acc ++ [v], .val (.int x), .val (.int ((k : Int) % (ns.length : Int))), y7, hr, by simp, .inl ?_⟩
      unfold l_law_draws_1
      rw [← em]
      simp only [sSeq_ap, t_law_draws_3_ap]
      generalize t_law_draws_2 = tl
      revert tl
      refine opq ?_
      intro tl
      by_cases c1 : 1000000000000000000 ≤ x
      · have c2 : ¬ 0 < y := fun z => c ⟨c1, z⟩
        simp [h, hx, hy, pow18, c1, c2]
      · simp [h, hx, pow18, c1]
  · obtain ⟨v, y7, em⟩ := mix_ok (.val (.sc (I ns))) (.val (.int n)) (.own (.lst (I rests))) s6 s7 acc k k m hl
    refine ⟨rests, acc ++ [v], .val (.int k), s6, y7, hr, by simp, .inl ?_⟩
    unfold l_law_draws_1
    rw [← em]
    simp only [sSeq_ap, t_law_draws_3_ap]
    generalize t_law_draws_2 = tl
    revert tl
    refine opq ?_
    intro tl
    simp [h]
theorem draws_ok (ns : List Int) (n : Nat) (hn : n ≤ 1000) (hl : ns.length ≤ 100) (m : List Cell) : ∃ ds, f_law_draws [.sc (I ns), .int n] m = some (.lst (I ds), m) := by
  have c1 : ∀ s2 s3 s4 s6 s7 : M.Slot, ∃ rests : List Int, rests.length = ns.length ∧ lcM (gNm 5) bYes c_law_draws_1 [5] (I ns) [] ⟨[.val (.sc (I ns)), .val (.int n), s2, s3, s4, .emp, s6, s7], m⟩ = some (I rests, ⟨[.val (.sc (I ns)), .val (.int n), s2, s3, s4, .emp, s6, s7], m⟩) := fun s2 s3 s4 s6 s7 => by
    refine ⟨ns.map fun x => if x < 0 then -x else x, by simp, ?_⟩
    conv => lhs; arg 5; rw [I]
    rw [lc_map M.D.int (fun x => .int (if x < 0 then -x else x)) ns (fun x _ => ?_) (by omega)]
    · simp [I]
    · unfold stepC c_law_draws_1
      simp [wipeR, restR]
  obtain ⟨rests, hr, e1⟩ := c1 .emp .emp .emp .emp .emp
  obtain ⟨S', e2, hS⟩ := forM_inv (g := gNm 4) (b := l_law_draws_1) (fun j : Nat => M.D.int (j : Int)) (fun rest S => ∃ (rests acc : List Int) (s4 s5 s6 s7 : M.Slot), rests.length = ns.length ∧ acc.length + rest.length ≤ 1000 ∧ S = ⟨[.val (.sc (I ns)), .val (.int n), .own (.lst (I rests)), .own (.lst (I acc)), s4, s5, s6, s7], m⟩) (fun x rest S hS => by
    obtain ⟨rests, acc, s4, s5, s6, s7, h1, h2, rfl⟩ := hS
    obtain ⟨rests', acc', t5, t6, t7, k1, k2, k3⟩ := draws_step ns rests acc x n h1 (by simp only [List.length_cons] at h2; omega) s5 s6 s7 m
    refine ⟨_, ⟨[.val (.sc (I ns)), .val (.int n), .own (.lst (I rests')), .own (.lst (I acc')), .val (.int x), t5, t6, t7], m⟩, rfl, k3, rests', acc', _, t5, t6, t7, k1, by simp only [List.length_cons] at h2; omega, rfl⟩) (List.range n) ⟨[.val (.sc (I ns)), .val (.int n), .own (.lst (I rests)), .own (.lst (I [])), .emp, .emp, .emp, .emp], m⟩ ⟨rests, [], _, _, _, _, hr, by simpa using hn, rfl⟩
  obtain ⟨rests', acc, s4, s5, s6, s7, h1, h2, rfl⟩ := hS
  refine ⟨acc, ?_⟩
  have hnil : I [] = [] := rfl
  rw [hnil] at e2
  have r1 : ∀ S : Ms, S.r[1]? = some (.val (.int n)) → iRg1 (eVar 1) S = some ((List.range n).map (fun j : Nat => M.D.int (j : Int)), S) := fun S hS => iRg1_step (by simp [hS]) (by omega)
  unfold f_law_draws b_law_draws
  simp only [fnM_ap]
  simp [-iRg1_ap, e1, r1, e2]
/-! the hand -/
def Hd (ds : List Int) (p : Int) : Cell := .lst [.lst (I ds), .int p]
theorem take_ok (ds : List Int) (p : Int) (hp : 0 ≤ p) (n : Int) (hn : 0 < n) (hn2 : n < 1000000000) (m : List Cell) : ∃ v, 0 ≤ v ∧ v < n ∧ f_law_take [.ref 0, .int n] (Hd ds p :: m) = some (.int v, Hd ds (p + 1) :: m) := by
  have hix : ixN 2 1 = some 1 := rfl
  by_cases h : (ds.length : Int) ≤ p
  · refine ⟨0, by omega, hn, ?_⟩
    unfold f_law_take b_law_take Hd
    simp [fnM_ap, h, hix]
  · obtain ⟨x, hx, _⟩ := atI_I (ns := ds) hp (by omega)
    refine ⟨x / 7 % n, Int.emod_nonneg _ (by omega), Int.emod_lt_of_pos _ hn, ?_⟩
    unfold f_law_take b_law_take Hd
    simp [fnM_ap, h, hix, hx, hn]
/-! the same -/
theorem same_str {z : Str} (h : PyData.strOk z = true) (k : Nat) (m : List Cell) : f_law_same (k + 1) [.str z, .str z] m = some (.bl true, m) := by
  show fnM 3 (b_law_same (f_law_same k)) _ _ = _
  generalize f_law_same k = rec
  unfold b_law_same
  simp [fnM_ap, h]
theorem same_int (i : Int) (k : Nat) (m : List Cell) : f_law_same (k + 1) [.int i, .int i] m = some (.bl true, m) := by
  show fnM 3 (b_law_same (f_law_same k)) _ _ = _
  generalize f_law_same k = rec
  unfold b_law_same
  simp [fnM_ap]
theorem same_non (k : Nat) (m : List Cell) : f_law_same (k + 1) [.non, .non] m = some (.bl true, m) := by
  show fnM 3 (b_law_same (f_law_same k)) _ _ = _
  generalize f_law_same k = rec
  unfold b_law_same
  simp [fnM_ap]
theorem same_loop (ds : List M.D) (rec : FF) (m : List Cell) (h : ∀ d ∈ ds, rec [d, d] m = some (.bl true, m)) : ∀ (n k : Nat) (x2 : M.Slot), k + n = ds.length → ∃ y2, M.forM (gNm 2) (l_law_same_1 rec) ((List.range' k n).map fun j : Nat => M.D.int (j : Int)) ⟨[.val (.tup ds), .val (.tup ds), x2], m⟩ = some (.nx, ⟨[.val (.tup ds), .val (.tup ds), y2], m⟩) := by
  intro n
  induction n with
  | zero => intro k x2 _; exact ⟨x2, rfl⟩
  | succ n ih =>
    intro k x2 hk
    obtain ⟨y2, e⟩ := ih (k + 1) (.val (.int (k : Int))) (by omega)
    refine ⟨y2, ?_⟩
    have hx : ds[k]? = some ds[k] := by simp
    have hi : atI ds (k : Int) = some ds[k] := by rw [atI_pos (Int.natCast_nonneg _) (by omega)]; simpa using hx
    have hr := h ds[k] (List.getElem_mem _)
    rw [← e, List.range'_succ, List.map_cons, forM_cons]
    generalize M.forM (gNm 2) (l_law_same_1 rec) ((List.range' (k + 1) n).map fun j : Nat => M.D.int (j : Int)) = K
    generalize ds[k] = d at hi hr
    unfold l_law_same_1
    simp [hi, hr]
theorem same_tup (ds : List M.D) (hl : ds.length ≤ 100000) (k : Nat) (m : List Cell) (h : ∀ d ∈ ds, f_law_same k [d, d] m = some (.bl true, m)) : f_law_same (k + 1) [.tup ds, .tup ds] m = some (.bl true, m) := by
  obtain ⟨y2, e⟩ := same_loop ds (f_law_same k) m h ds.length 0 .emp (by omega)
  have r1 : iRg1 (eCallV gLen 1) ⟨[.val (.tup ds), .val (.tup ds), .emp], m⟩ = some ((List.range' 0 ds.length).map (fun j : Nat => M.D.int (j : Int)), ⟨[.val (.tup ds), .val (.tup ds), .emp], m⟩) := by
    have := iRg1_step (f := eCallV gLen 1) (S := ⟨[.val (.tup ds), .val (.tup ds), .emp], m⟩) (S' := ⟨[.val (.tup ds), .val (.tup ds), .emp], m⟩) (n := ds.length) (by simp) (by omega)
    rw [this, List.range_eq_range']
  generalize (List.range' 0 ds.length).map (fun j : Nat => M.D.int (j : Int)) = L at e r1
  show fnM 3 (b_law_same (f_law_same k)) _ _ = _
  generalize f_law_same k = rec at e
  unfold b_law_same
  simp [-iRg1_ap, fnM_ap, r1, e]
end Lk13



namespace Lk13
open PySem L2 M
/-! a run of a program -/
def endO : M.D := .tup [.str "end"]
def outO : Option Out → M.D
  | none => endO
  | some q => encO (some q)
section
variable {ca : Nat → Addr} {pl : List At}
theorem watch_make {m : List Cell} : f_Watch___init__ ca [.ref m.length, .tup (pl.map encA)] (m ++ [.obj (ca 4) []]) = some (.non, m ++ [.obj (ca 4) [("place", .tup (pl.map encA)), ("progress", .int 0)]]) := by
  unfold f_Watch___init__ b_Watch___init__
  generalize pl.map encA = PL
  simp [fnM_ap, n_pp, set_last]
theorem run_make {m : List Cell} : f_Run___init__ ca [.ref m.length, .tup (pl.map encA)] (m ++ [.obj (ca 5) []]) = some (.non, m ++ [.obj (ca 5) [("outcome", endO), ("events", .ref (m.length + 1)), ("met", .non), ("watch", .ref (m.length + 2))], .lst [], .obj (ca 4) [("place", .tup (pl.map encA)), ("progress", .int 0)]]) := by
  obtain ⟨r1, r2, r3, r4, r5, r6⟩ := ne_run
  have hw := watch_make (ca := ca) (pl := pl) (m := m ++ [.obj (ca 5) [("outcome", endO), ("events", .ref (m.length + 1)), ("met", .non)], .lst []])
  have hl : (m ++ [Cell.obj (ca 5) [("outcome", endO), ("events", .ref (m.length + 1)), ("met", .non)], Cell.lst []]).length = m.length + 2 := by simp
  rw [hl] at hw
  simp only [List.append_assoc, List.cons_append, List.nil_append] at hw
  unfold f_Run___init__ b_Run___init__ t_Run___init___2 t_Run___init___1
  unfold endO at *
  generalize pl.map encA = PL at *
  generalize f_Watch___init__ ca = fw at *
  simp [fnM_ap, r1, r2, r3, r4, r5, r6, set_last, List.set_append, hw]
theorem prog_make {m : List Cell} {a b c : List M.D} : f_Program___init__ ca [.ref m.length, .tup a, .tup b, .tup c] (m ++ [.obj (ca 3) []]) = some (.non, m ++ [.obj (ca 3) [("inputs", .tup a), ("functions", .tup b), ("body", .tup c)]]) := by
  have n1 : ¬ ("inputs" : Str) = "functions" := by decide +kernel
  have n2 : ¬ ("inputs" : Str) = "body" := by decide +kernel
  have n3 : ¬ ("functions" : Str) = "body" := by decide +kernel
  unfold f_Program___init__ b_Program___init__
  simp [fnM_ap, n1, n2, n3, set_last]
structure Pr where
  ins : List Inp
  fns : List Fn
  body : List Sm
def PrAt (ca : Nat → Addr) (m : List Cell) (kp : Nat) (P : Pr) : Prop := m[kp]? = some (.obj (ca 3) [("inputs", .tup (P.ins.map encI)), ("functions", .tup (P.fns.map encF)), ("body", .tup (encB P.body))])
/-- the run of a program at an input -/
noncomputable def runP (pl : List At) (P : Pr) (xs : List Int) : Option (Wo × Option Out) :=
  if inR xs (unk P.ins) = true then runB pl P.fns 9 ⟨inV P.ins xs (fun _ => none), fun _ => none, ⟨[], none, 0⟩⟩ P.body else none
theorem run_in {m : List Cell} {kp : Nat} {XS PL : List M.D} {a b : List M.D} {m1 m2 m4 : List Cell} {Q : M.D} {kr ke kw kv : Nat} {O : M.D} {X : M.D} {fsr : List (Str × M.D)}
    (hp : m[kp]? = some (.obj (ca 3) [("inputs", .tup XS), ("functions", .tup a), ("body", .tup b)]))
    (hi : f_is_input ca [.ref kp, X] m = some (.bl true, m)) (hkr : kr = m.length)
    (hr : f_Run___init__ ca [.ref m.length, .tup PL] (m ++ [.obj (ca 5) []]) = some (.non, m1))
    (hv : f_input_variables ca [.ref kp, X] m1 = some (.ref kv, m2)) (hp2 : (m2 ++ [Cell.obj (ca 6) [("variables", .ref kv), ("ranges", .ref (m2.length + 1))], .dct []])[kp]? = some (.obj (ca 3) [("inputs", .tup XS), ("functions", .tup a), ("body", .tup b)]))
    (hX : ∀ S0 : Ms, vw S0 X = X)
    (hb : f_do_block ca 30 [.ref m.length, .ref kp, .ref m2.length, .tup b] (m2 ++ [.obj (ca 6) [("variables", .ref kv), ("ranges", .ref (m2.length + 1))], .dct []]) = some (Q, m4)) (hQ : ∀ S0 : Ms, vw S0 Q = Q) :
    f_run_program ca [.ref kp, X, .tup PL] m = (t_run_program_1 ca ⟨[.val (.ref kp), .val X, .val (.tup PL), .val (.ref m.length), .val Q], m4⟩).bind fun p => match p.1 with
      | .fl (.rt d) => some ((Sum.inl d : M.D ⊕ M.Ex), p.2.m)
      | .fl .nx => some ((Sum.inl M.D.non : M.D ⊕ M.Ex), p.2.m)
      | .ex e => some ((Sum.inr e : M.D ⊕ M.Ex), p.2.m)
      | _ => none := by
  have hmk := frame_make (ca := ca) (m := m2) (k := kv)
  simp only [List.append_assoc, List.cons_append, List.nil_append] at hmk
  have nb : ¬ ("inputs" : Str) = "body" := by decide +kernel
  have nf : ¬ ("functions" : Str) = "body" := by decide +kernel
  unfold f_run_program b_run_program t_run_program_3 t_run_program_2
  generalize t_run_program_1 ca = tl at *
  generalize f_is_input ca = fi at *
  generalize f_Run___init__ ca = fr at *
  generalize f_input_variables ca = fv at *
  generalize f_Frame___init__ ca = ff at *
  generalize f_do_block ca 30 = fb at *
  revert tl; refine opq ?_; intro tl
  simp [fnX_ap, hi, hr, hv, hX, hmk, hp2, nb, nf, hb, hQ]
  all_goals congr 1
theorem run_out {m m' : List Cell} {kr : Nat} {x0 x1 x2 : M.Slot} {fs : List (Str × M.D)} (o : Option Out) (h : m[kr]? = some (.obj (ca 5) fs)) (hl : fs.length < 1000) (hm : m' = match o with
      | none => m
      | some q => m.set kr (.obj (ca 5) (putD "outcome" (encO (some q)) fs))) :
    (t_run_program_1 ca ⟨[x0, x1, x2, .val (.ref kr), .val (encO o)], m⟩).bind (fun p => match p.1 with
      | .fl (.rt d) => some ((Sum.inl d : M.D ⊕ M.Ex), p.2.m)
      | .fl .nx => some ((Sum.inl M.D.non : M.D ⊕ M.Ex), p.2.m)
      | .ex e => some ((Sum.inr e : M.D ⊕ M.Ex), p.2.m)
      | _ => none) = some (.inl (.ref kr), m') := by
  unfold t_run_program_1
  cases o with
  | none => subst hm; simp [encO]
  | some q =>
    subst hm
    obtain ⟨ds, hd⟩ := encO_some q
    simp only [hd]
    simp [h, hl]
theorem run_ok (t : Bool) {m : List Cell} {kp : Nat} {P : Pr} {xs : List Int} {w : Wo} {o : Option Out} (hp : PrAt ca m kp P) (h : runP pl P xs = some (w, o)) (hn : w.L.evs.length ≤ 90000) (hu : (unk P.ins).length ≤ 1000) (hi : P.ins.length ≤ 1000) (hg : ∀ a ∈ pl, GoodA a) (hpl : pl.length ≤ 1000) :
    ∃ m', f_run_program ca [.ref kp, sq t (I xs), .tup (pl.map encA)] m = some (.inl (.ref m.length), m') ∧ RunAt ca m' m.length (m.length + 1) (m.length + 2) (outO o) pl w.L ∧ Keep [] m m' := by
  unfold runP at h
  split at h
  · rename_i hx
    have hkp : kp < m.length := (List.getElem?_eq_some_iff.mp hp).1
    have nI : ¬ ("inputs" : Str) = "functions" := by decide +kernel
    have hin := isin_ok' (t := t) hp (by simp) hu hx
    have hrun := run_make (ca := ca) (pl := pl) (m := m)
    generalize hm1 : m ++ [Cell.obj (ca 5) [("outcome", endO), ("events", .ref (m.length + 1)), ("met", .non), ("watch", .ref (m.length + 2))], Cell.lst [], Cell.obj (ca 4) [("place", .tup (pl.map encA)), ("progress", .int 0)]] = m1 at hrun
    have l1 : m1.length = m.length + 3 := by rw [← hm1]; simp
    have old1 : ∀ k, k < m.length → m1[k]? = m[k]? := fun k hk => by rw [← hm1, List.getElem?_append_left hk]
    have g0 : m1[m.length]? = some (Cell.obj (ca 5) [("outcome", endO), ("events", .ref (m.length + 1)), ("met", .non), ("watch", .ref (m.length + 2))]) := by rw [← hm1, List.getElem?_append_right (Nat.le_refl _), Nat.sub_self]; rfl
    have g1 : m1[m.length + 1]? = some (Cell.lst []) := by rw [← hm1, List.getElem?_append_right (by omega), show m.length + 1 - m.length = 1 by omega]; rfl
    have g2 : m1[m.length + 2]? = some (Cell.obj (ca 4) [("place", .tup (pl.map encA)), ("progress", .int 0)]) := by rw [← hm1, List.getElem?_append_right (by omega), show m.length + 2 - m.length = 2 by omega]; rfl
    have hp1 : m1[kp]? = _ := (old1 kp hkp).trans hp
    obtain ⟨m2, vd, c2, iv, k2, lv⟩ := inv_ok (t := t) (xs := xs) hp1 (by simp) hu (inR_len hx) hi
    rw [l1] at c2 iv k2
    have hv2 : m.length + 3 < m2.length := (List.getElem?_eq_some_iff.mp iv.v).1
    have hl2 : m1.length ≤ m2.length := k2.1
    have old2 : ∀ k, k < m.length + 3 → m2[k]? = m1[k]? := fun k hk => k2.2 k hk (by omega) (by simp)
    generalize hm3 : m2 ++ [Cell.obj (ca 6) [("variables", .ref (m.length + 3)), ("ranges", .ref (m2.length + 1))], Cell.dct []] = m3
    have old3 : ∀ k, k < m2.length → m3[k]? = m2[k]? := fun k hk => by rw [← hm3, List.getElem?_append_left hk]
    have q0 : m3[m2.length]? = some (Cell.obj (ca 6) [("variables", .ref (m.length + 3)), ("ranges", .ref (m2.length + 1))]) := by rw [← hm3, List.getElem?_append_right (Nat.le_refl _), Nat.sub_self]; rfl
    have q1 : m3[m2.length + 1]? = some (Cell.dct []) := by rw [← hm3, List.getElem?_append_right (by omega), show m2.length + 1 - m2.length = 1 by omega]; rfl
    have low : ∀ k, k < m.length + 3 → m3[k]? = m1[k]? := fun k hk => (old3 k (by omega)).trans (old2 k hk)
    have hp3 : m3[kp]? = _ := (low kp (by omega)).trans hp1
    have l3 : m3.length = m2.length + 2 := by rw [← hm3]; simp
    have w0 : WAt ca (m.length + 3) m3 m.length (m.length + 1) (m.length + 2) endO pl m2.length (m.length + 3) (m2.length + 1) ⟨inV P.ins xs (fun _ => none), fun _ => none, ⟨[], none, 0⟩⟩ vd [] := by
      refine ⟨⟨(low _ (by omega)).trans g0, (low _ (by omega)).trans g1, ⟨(low _ (by omega)).trans g2, hg, hpl⟩, by omega, by omega, by omega, by simp⟩, ⟨q0, (old3 _ hv2).trans iv.v, ?_, by omega, q1, fun x => rfl, by simp, fun x k e => ?_, iv.inj, by simp, fun x k e => ?_, by omega, by omega, by omega, by omega, fun x k e => ?_⟩, by omega, by omega, by omega⟩
      · rw [← hm3]; exact iv.vr.app
      · have := iv.lo _ _ e; simp; omega
      · have := iv.lo _ _ e; omega
      · have := iv.lo _ _ e; omega
    have hpg : PgAt ca m3 kp P.fns := ⟨_, hp3, by simp [nI]⟩
    obtain ⟨m4, vd4, gd4, c4, h4, k4, l4, l5⟩ := blocks_ok 9 30 (by omega) w0 hpg (by omega) (by simp; omega) h hn (by simp only [List.length_nil]; omega) (by simp)
    have hr4 := h4.r.r
    have cin := run_in (ca := ca) (X := sq t (I xs)) (PL := pl.map encA) (kr := m.length) (ke := 0) (kw := 0) (O := .non) (fsr := []) hp hin rfl hrun c2 (by rw [hm3]; exact hp3) (fun S0 => vw_sq t _ S0) (by rw [hm3]; exact c4) (fun S0 => vw_O S0 o)
    have hkeep : ∀ k, k < m.length → m4[k]? = m[k]? := fun k hk => by
      rw [k4.2 k (by omega) (by omega) (by simp; omega), low k (by omega), old1 k hk]
    obtain ⟨r1, r2, r3, r4, r5, r6⟩ := ne_run
    have hlen4 : m.length ≤ m4.length := by have := k4.1; omega
    cases o with
    | none =>
      refine ⟨m4, ?_, h4.r, hlen4, fun k hk _ => hkeep k hk⟩
      rw [cin]
      exact run_out none hr4 (by simp) rfl
    | some q =>
      have hlt : m.length < m4.length := (List.getElem?_eq_some_iff.mp hr4).1
      refine ⟨m4.set m.length (.obj (ca 5) [("outcome", outO (some q)), ("events", .ref (m.length + 1)), ("met", oM w.L.met), ("watch", .ref (m.length + 2))]), ?_, ⟨List.getElem?_set_self hlt, ?_, ⟨?_, h4.r.w.g, h4.r.w.n⟩, h4.r.d1, h4.r.d2, h4.r.d3, h4.r.n⟩, by simpa using hlen4, fun k hk _ => ?_⟩
      · rw [cin]
        exact run_out (some q) hr4 (by simp) (by simp [outO])
      · rw [List.getElem?_set_ne (by omega)]; exact h4.r.e
      · rw [List.getElem?_set_ne (by omega)]; exact h4.r.w.c
      · rw [List.getElem?_set_ne (by omega)]; exact hkeep k hk
  · cases h
theorem run_bad {m : List Cell} {kp : Nat} {d PL : M.D} (hi : f_is_input ca [.ref kp, d] m = some (.bl false, m)) (hd : ∀ S0 : Ms, vw S0 d = d) : f_run_program ca [.ref kp, d, PL] m = some (.inr ⟨2, none⟩, m) := by
  unfold f_run_program b_run_program
  generalize t_run_program_3 ca = tl
  generalize f_is_input ca = fi at *
  revert tl; refine opq ?_; intro tl
  simp [fnX_ap, hi, hd]
end
end Lk13



namespace Lk13
open PySem L2 M
/-! the program of this law, run -/
structure Dr where
  d0 : Int
  d1 : Int
  d2 : Int
  d3 : Int
  d4 : Int
  lo : Int
  hi : Int
  d7 : Nat
def nmR : Nat → Str
  | 0 => "a"
  | 1 => "b"
  | 2 => "n"
  | _ => "r"
def fnA (d : Dr) : Fn := ⟨3, "f", ["a"], [.let_ 4 "n" none (.var "a" 3), .set_ 5 "a" (.var "n" d.d2), .if_ 6 (.cmp "<" (.var "a" 0) (.num d.d0)) [.return_ 7 (.var "a" d.d1)] []]⟩
def fnB (d : Dr) : Fn := ⟨10, "g", ["x", "y"], [.call_ 11 "x" "f" [.var "y" 0], .check_ 12 (.cmp "<=" (.var "x" 0) (.num d.d3)), .return_ 13 (.var "x" 1)]⟩
def bodyP (d : Dr) : List Sm := [.let_ 15 "n" none (.num d.d4), .let_ 16 "r" (some (d.lo, d.hi)) (.var "b" 0), .call_ 17 "r" "f" [.var "a" 0], .call_ 18 "n" "g" [.var "n" 0, .var "r" 0], .set_ 19 "r" (.var "n" (-1)), .answer_ 20 (.var (nmR d.d7) 0)]
def prP (d : Dr) : Pr := ⟨[⟨"a", 0, -20, 20⟩, ⟨"b", 0, -20, 20⟩], [fnA d, fnB d], bodyP d⟩
/-! what the law counts -/
def fstE (d : Dr) (v : Int) : List Ev := if v + 3 + d.d2 < d.d0 then [.row 4, .row 5, .row 6, .yes 6, .row 7] else [.row 4, .row 5, .row 6, .no 6]
def fstV (d : Dr) (v : Int) : Int := if v + 3 + d.d2 < d.d0 then v + 3 + d.d2 + d.d1 else 0
def sndE (d : Dr) (v : Int) : List Ev := if fstV d v ≤ d.d3 then [.row 11] ++ fstE d v ++ [.row 12, .yes 12, .row 13] else [.row 11] ++ fstE d v ++ [.row 12, .no 12, .fault 12 "check"]
def sndV (d : Dr) (v : Int) : Option Int := if fstV d v ≤ d.d3 then some (fstV d v + 1) else none
def inD (d : Dr) (v : Int) : Prop := d.lo ≤ v ∧ v ≤ d.hi
instance (d : Dr) (v : Int) : Decidable (inD d v) := inferInstanceAs (Decidable (_ ∧ _))
def ans (d : Dr) (a b n r : Int) : Int := match d.d7 with
  | 0 => a
  | 1 => b
  | 2 => n
  | _ => r
def lawE (d : Dr) (a b : Int) : List Ev × Out :=
  if ¬ inD d b then ([.row 15, .row 16, .fault 16 "range"], .fault 16 "range") else
  if ¬ inD d (fstV d a) then ([.row 15, .row 16, .row 17] ++ fstE d a ++ [.fault 17 "range"], .fault 17 "range") else
  match sndV d (fstV d a) with
  | none => ([.row 15, .row 16, .row 17] ++ fstE d a ++ [.row 18] ++ sndE d (fstV d a), .fault 12 "check")
  | some n => if ¬ inD d (n - 1) then ([.row 15, .row 16, .row 17] ++ fstE d a ++ [.row 18] ++ sndE d (fstV d a) ++ [.row 19, .fault 19 "range"], .fault 19 "range") else
    ([.row 15, .row 16, .row 17] ++ fstE d a ++ [.row 18] ++ sndE d (fstV d a) ++ [.row 19, .row 20], .answer (ans d a b n (n - 1)))
/-! states without a place -/
def wo (V : Vs) (G : Str → Option (Int × Int)) (es : List Ev) : Wo := ⟨V, G, ⟨es, none, 0⟩⟩
theorem tk0 {V : Vs} {G : Str → Option (Int × Int)} {es : List Ev} {e : Ev} : tk [] (wo V G es) e = some (wo V G (es ++ [e])) := by
  have h1 : wants (([] : List At)[0]?) e = none := by cases e <;> rfl
  unfold tk tick wo
  simp only [h1, tru, Option.map_some]
  have h2 : meetsA (([] : List At)[0]?) e false = false := by unfold meetsA; rw [h1]; rfl
  rw [h2]
  rfl
theorem flt0 {V : Vs} {G : Str → Option (Int × Int)} {es : List Ev} {row : Int} {k : Str} : flt [] (wo V G es) row k = some (wo V G (es ++ [.fault row k]), some (.fault row k)) := by
  unfold flt; rw [tk0]; rfl
theorem sto1 {V : Vs} {G : Str → Option (Int × Int)} {es : List Ev} {row : Int} {x : Str} {i : Int} (h : inG G x i = true) : sto [] (wo V G es) row x (some i) = some (wo (setV V x (.int i)) G es, none) := by
  simp only [sto]
  rw [if_pos (show inG (wo V G es).G x i = true from h)]
  rfl
theorem sto2 {V : Vs} {G : Str → Option (Int × Int)} {es : List Ev} {row : Int} {x : Str} {i : Int} (h : inG G x i = false) : sto [] (wo V G es) row x (some i) = some (wo V G (es ++ [.fault row "range"]), some (.fault row "range")) := by
  simp only [sto]
  rw [if_neg (show ¬ inG (wo V G es).G x i = true by rw [show (wo V G es).G = G from rfl, h]; simp)]
  exact flt0
theorem setV_same {V : Vs} {x : Str} {v : Vl} : setV V x v x = some v := by unfold setV; rw [if_pos rfl]
theorem setV_ne {V : Vs} {x y : Str} {v : Vl} (h : y ≠ x) : setV V x v y = V y := by unfold setV; rw [if_neg h]
theorem runL_cons0 {rec : Wo → Sm → Option (Wo × Option Out)} {w w' : Wo} {s : Sm} {ss : List Sm} (h : rec w s = some (w', none)) : runL rec w (s :: ss) = runL rec w' ss := by
  simp only [runL]; rw [h]; rfl
theorem runL_cons1 {rec : Wo → Sm → Option (Wo × Option Out)} {w w' : Wo} {s : Sm} {ss : List Sm} {o : Out} (h : rec w s = some (w', some o)) : runL rec w (s :: ss) = some (w', some o) := by
  simp only [runL]; rw [h]; rfl
theorem evV {V : Vs} {x : Str} {v c : Int} (h : V x = some (.int v)) : evE V (.var x c) = some (some (v + c)) := by simp only [evE, h]
theorem askB {V : Vs} {G : Str → Option (Int × Int)} {es : List Ev} {row : Int} {c : Cn} {b : Bool} (hc : evC V c = some (some b)) : askP [] (wo V G es) row c = some (wo V G (es ++ [.row row, if b = true then .yes row else .no row]), some b) := by
  unfold askP
  rw [tk0]
  simp only [Option.bind_some]
  rw [show (wo V G (es ++ [Ev.row row])).V = V from rfl, hc]
  simp only [Option.bind_some]
  cases b
  · show (tk [] _ (Ev.no row)).map _ = _
    rw [tk0]; simp
  · show (tk [] _ (Ev.yes row)).map _ = _
    rw [tk0]; simp
theorem evLt {V : Vs} {x : Str} {v s : Int} (h : V x = some (.int v)) : evC V (.cmp "<" (.var x 0) (.num s)) = some (some (decide (v < s))) := by
  have e1 : evE V (.var x 0) = some (some (v + 0)) := by simp only [evE, h]
  simp only [evC]
  rw [if_pos ⟨by simp [dpE], by simp [dpE]⟩, e1]
  simp [sgn, evE]
theorem evLe {V : Vs} {x : Str} {v s : Int} (h : V x = some (.int v)) : evC V (.cmp "<=" (.var x 0) (.num s)) = some (some (decide (v ≤ s))) := by
  have e1 : evE V (.var x 0) = some (some (v + 0)) := by simp only [evE, h]
  simp only [evC]
  rw [if_pos ⟨by simp [dpE], by simp [dpE]⟩, e1]
  simp [sgn, evE, sn10]
section
variable {fns : List Fn}
theorem set1 {d : Nat} {V : Vs} {G : Str → Option (Int × Int)} {es : List Ev} {row : Int} {x : Str} {e : Ex} {i : Int} (he : evE V e = some (some i)) (hd : dpE e ≤ 8) (hG : inG G x i = true) : runS [] fns (d + 1) (wo V G es) (.set_ row x e) = some (wo (setV V x (.int i)) G (es ++ [.row row]), none) := by
  show (tk [] (wo V G es) (.row row)).bind (fun w1 => plnP [] w1 (.set_ row x e)) = _
  rw [tk0]
  simp only [Option.bind_some, plnP]
  rw [if_pos hd, show (wo V G (es ++ [Ev.row row])).V = V from rfl, he]
  exact sto1 (row := row) hG
theorem set2 {d : Nat} {V : Vs} {G : Str → Option (Int × Int)} {es : List Ev} {row : Int} {x : Str} {e : Ex} {i : Int} (he : evE V e = some (some i)) (hd : dpE e ≤ 8) (hG : inG G x i = false) : runS [] fns (d + 1) (wo V G es) (.set_ row x e) = some (wo V G (es ++ [.row row] ++ [.fault row "range"]), some (.fault row "range")) := by
  show (tk [] (wo V G es) (.row row)).bind (fun w1 => plnP [] w1 (.set_ row x e)) = _
  rw [tk0]
  simp only [Option.bind_some, plnP]
  rw [if_pos hd, show (wo V G (es ++ [Ev.row row])).V = V from rfl, he]
  exact sto2 (row := row) hG
theorem let1 {d : Nat} {V : Vs} {G : Str → Option (Int × Int)} {es : List Ev} {row : Int} {x : Str} {e : Ex} {i : Int} (he : evE V e = some (some i)) (hd : dpE e ≤ 8) (hG : inG G x i = true) : runS [] fns (d + 1) (wo V G es) (.let_ row x none e) = some (wo (setV V x (.int i)) G (es ++ [.row row]), none) := by
  show (tk [] (wo V G es) (.row row)).bind (fun w1 => plnP [] w1 (.let_ row x none e)) = _
  rw [tk0]
  simp only [Option.bind_some, plnP]
  rw [if_pos hd, show (wo V G (es ++ [Ev.row row])).V = V from rfl, he]
  exact sto1 (row := row) hG
theorem letG1 {d : Nat} {V : Vs} {G : Str → Option (Int × Int)} {es : List Ev} {row : Int} {x : Str} {p : Int × Int} {e : Ex} {i : Int} (he : evE V e = some (some i)) (hd : dpE e ≤ 8) (hG : inG (setG G x p) x i = true) : runS [] fns (d + 1) (wo V G es) (.let_ row x (some p) e) = some (wo (setV V x (.int i)) (setG G x p) (es ++ [.row row]), none) := by
  show (tk [] (wo V G es) (.row row)).bind (fun w1 => plnP [] w1 (.let_ row x (some p) e)) = _
  rw [tk0]
  simp only [Option.bind_some, plnP]
  rw [if_pos hd, show (wo V G (es ++ [Ev.row row])).V = V from rfl, he]
  exact sto1 (row := row) (V := V) (G := setG G x p) (es := es ++ [.row row]) hG
theorem letG2 {d : Nat} {V : Vs} {G : Str → Option (Int × Int)} {es : List Ev} {row : Int} {x : Str} {p : Int × Int} {e : Ex} {i : Int} (he : evE V e = some (some i)) (hd : dpE e ≤ 8) (hG : inG (setG G x p) x i = false) : runS [] fns (d + 1) (wo V G es) (.let_ row x (some p) e) = some (wo V (setG G x p) (es ++ [.row row] ++ [.fault row "range"]), some (.fault row "range")) := by
  show (tk [] (wo V G es) (.row row)).bind (fun w1 => plnP [] w1 (.let_ row x (some p) e)) = _
  rw [tk0]
  simp only [Option.bind_some, plnP]
  rw [if_pos hd, show (wo V G (es ++ [Ev.row row])).V = V from rfl, he]
  exact sto2 (row := row) (V := V) (G := setG G x p) (es := es ++ [.row row]) hG
theorem res1 {d : Nat} {V : Vs} {G : Str → Option (Int × Int)} {es : List Ev} {row : Int} {x : Str} {c v : Int} (h : V x = some (.int v)) : runS [] fns (d + 1) (wo V G es) (.return_ row (.var x c)) = some (wo V G (es ++ [.row row]), some (.ret (v + c))) ∧ runS [] fns (d + 1) (wo V G es) (.answer_ row (.var x c)) = some (wo V G (es ++ [.row row]), some (.answer (v + c))) := by
  constructor
  · show (tk [] (wo V G es) (.row row)).bind (fun w1 => plnP [] w1 (.return_ row (.var x c))) = _
    rw [tk0]
    simp only [Option.bind_some, plnP]
    rw [if_pos (by simp [dpE]), show (wo V G (es ++ [Ev.row row])).V = V from rfl, evV h]
    rfl
  · show (tk [] (wo V G es) (.row row)).bind (fun w1 => plnP [] w1 (.answer_ row (.var x c))) = _
    rw [tk0]
    simp only [Option.bind_some, plnP]
    rw [if_pos (by simp [dpE]), show (wo V G (es ++ [Ev.row row])).V = V from rfl, evV h]
    rfl
/-- a call, as its block answers -/
theorem call1 {d : Nat} {V : Vs} {G : Str → Option (Int × Int)} {es es2 : List Ev} {row : Int} {x f : Str} {as : List Ex} {is : List Int} {g : Fn} {V2 : Vs} {G2 : Str → Option (Int × Int)} {o : Option Out} {v : Int} (hf : fns.find? (fun g => decide (g.name = f)) = some g) (hl : g.ps.length = as.length) (h9 : as.length ≤ 900) (ha : argsP V as = some is)
    (hb : runL (runS [] fns d) (wo (parV (fun _ => none) g.ps is) (fun _ => none) (es ++ [.row row])) g.body = some (wo V2 G2 es2, o)) (ho : o = none ∧ v = 0 ∨ o = some (.ret v)) : runS [] fns (d + 1) (wo V G es) (.call_ row x f as) = sto [] (wo V G es2) row x (some v) := by
  show (tk [] (wo V G es) (.row row)).bind (fun w1 => callP [] fns (runL (runS [] fns d)) w1 row x f as) = _
  rw [tk0]
  simp only [Option.bind_some]
  unfold callP
  rw [hf]
  simp only
  rw [if_pos ⟨hl, h9⟩, show (wo V G (es ++ [Ev.row row])).V = V from rfl, ha]
  simp only [Option.bind_some]
  have hb' : runL (runS [] fns d) ⟨parV (fun _ => none) g.ps is, fun _ => none, (wo V G (es ++ [Ev.row row])).L⟩ g.body = _ := hb
  rw [hb']
  rcases ho with ⟨rfl, rfl⟩ | rfl <;> rfl
theorem call2 {d : Nat} {V : Vs} {G : Str → Option (Int × Int)} {es es2 : List Ev} {row r2 : Int} {k2 : Str} {x f : Str} {as : List Ex} {is : List Int} {g : Fn} {V2 : Vs} {G2 : Str → Option (Int × Int)} (hf : fns.find? (fun g => decide (g.name = f)) = some g) (hl : g.ps.length = as.length) (h9 : as.length ≤ 900) (ha : argsP V as = some is)
    (hb : runL (runS [] fns d) (wo (parV (fun _ => none) g.ps is) (fun _ => none) (es ++ [.row row])) g.body = some (wo V2 G2 es2, some (.fault r2 k2))) : runS [] fns (d + 1) (wo V G es) (.call_ row x f as) = some (wo V G es2, some (.fault r2 k2)) := by
  show (tk [] (wo V G es) (.row row)).bind (fun w1 => callP [] fns (runL (runS [] fns d)) w1 row x f as) = _
  rw [tk0]
  simp only [Option.bind_some]
  unfold callP
  rw [hf]
  simp only
  rw [if_pos ⟨hl, h9⟩, show (wo V G (es ++ [Ev.row row])).V = V from rfl, ha]
  simp only [Option.bind_some]
  have hb' : runL (runS [] fns d) ⟨parV (fun _ => none) g.ps is, fun _ => none, (wo V G (es ++ [Ev.row row])).L⟩ g.body = _ := hb
  rw [hb']
  rfl
end
end Lk13



namespace Lk13
open PySem L2 M
/-! the functions and the whole -/
theorem m_an : ("a" : Str) ≠ "n" := by decide +kernel
theorem m_na : ("n" : Str) ≠ "a" := by decide +kernel
theorem n_xy : ("x" : Str) ≠ "y" := by decide +kernel
theorem n_yx : ("y" : Str) ≠ "x" := by decide +kernel
theorem n_fg : ¬ ("f" : Str) = "g" := by decide +kernel
def rets (d : Dr) (v : Int) : Option Out := if v + 3 + d.d2 < d.d0 then some (.ret (fstV d v)) else none
theorem fst_run {fns : List Fn} (d : Dr) (mm k : Nat) (hm : mm = k + 2) (v : Int) (es : List Ev) : ∃ V', runL (runS [] fns mm) (wo (parV (fun _ => none) ["a"] [v]) (fun _ => none) es) (fnA d).body = some (wo V' (fun _ => none) (es ++ fstE d v), rets d v) := by
  subst hm
  have hP : parV (fun _ => none) ["a"] [v] = setV (fun _ => none) "a" (.int v) := rfl
  rw [hP]
  have h1 := let1 (fns := fns) (d := k + 1) (V := setV (fun _ => none) "a" (.int v)) (G := fun _ => none) (es := es) (row := 4) (x := "n") (e := .var "a" 3) (i := v + 3) (evV setV_same) (by simp [dpE]) rfl
  have h2 := set1 (fns := fns) (d := k + 1) (V := setV (setV (fun _ => none) "a" (.int v)) "n" (.int (v + 3))) (G := fun _ => none) (es := es ++ [.row 4]) (row := 5) (x := "a") (e := .var "n" d.d2) (i := v + 3 + d.d2) (evV setV_same) (by simp [dpE]) rfl
  generalize hV : setV (setV (setV (fun _ => none) "a" (.int v)) "n" (.int (v + 3))) "a" (.int (v + 3 + d.d2)) = V at *
  have hVa : V "a" = some (.int (v + 3 + d.d2)) := by rw [← hV]; exact setV_same
  have hc := evLt (s := d.d0) hVa
  have ha := askB (G := fun _ => none) (es := es ++ [.row 4] ++ [.row 5]) (row := 6) hc
  unfold fnA rets fstE
  simp only
  rw [runL_cons0 h1, runL_cons0 h2]
  by_cases c : v + 3 + d.d2 < d.d0
  · rw [if_pos c, if_pos c]
    rw [decide_eq_true c, if_pos rfl] at ha
    refine ⟨V, ?_⟩
    have h3 := (res1 (fns := fns) (d := k) (G := fun _ => none) (es := es ++ [.row 4] ++ [.row 5] ++ [.row 6, .yes 6]) (row := 7) (c := d.d1) hVa).1
    have hif : runS [] fns (k + 2) (wo V (fun _ => none) (es ++ [.row 4] ++ [.row 5])) (.if_ 6 (.cmp "<" (.var "a" 0) (.num d.d0)) [.return_ 7 (.var "a" d.d1)] []) = some (wo V (fun _ => none) (es ++ [.row 4] ++ [.row 5] ++ [.row 6, .yes 6] ++ [.row 7]), some (.ret (v + 3 + d.d2 + d.d1))) := by
      show stmP [] fns (runL (runS [] fns (k + 1))) (wo V (fun _ => none) (es ++ [.row 4] ++ [.row 5])) _ = _
      simp only [stmP]
      rw [if_pos (by simp [dpC])]
      unfold ifP
      rw [ha]
      simp only [Option.bind_some]
      rw [runL_cons1 h3]
    rw [runL_cons1 hif]
    simp [fstV, c]
  · rw [if_neg c, if_neg c]
    rw [decide_eq_false c, if_neg (by simp)] at ha
    refine ⟨V, ?_⟩
    have hif : runS [] fns (k + 2) (wo V (fun _ => none) (es ++ [.row 4] ++ [.row 5])) (.if_ 6 (.cmp "<" (.var "a" 0) (.num d.d0)) [.return_ 7 (.var "a" d.d1)] []) = some (wo V (fun _ => none) (es ++ [.row 4] ++ [.row 5] ++ [.row 6, .no 6]), none) := by
      show stmP [] fns (runL (runS [] fns (k + 1))) (wo V (fun _ => none) (es ++ [.row 4] ++ [.row 5])) _ = _
      simp only [stmP]
      rw [if_pos (by simp [dpC])]
      unfold ifP
      rw [ha]
      simp only [Option.bind_some]
      rfl
    rw [runL_cons0 hif]
    simp [runL]
theorem rets_v (d : Dr) (v : Int) : rets d v = none ∧ fstV d v = 0 ∨ rets d v = some (.ret (fstV d v)) := by
  unfold rets
  by_cases c : v + 3 + d.d2 < d.d0
  · right; rw [if_pos c]
  · left; rw [if_neg c]; exact ⟨rfl, by unfold fstV; rw [if_neg c]⟩
theorem arg1 {V : Vs} {x : Str} {v : Int} (h : V x = some (.int v)) : argsP V [.var x 0] = some [v] := by simp [argsP, dpE, evE, h]
theorem arg2 {V : Vs} {x y : Str} {v u : Int} (h : V x = some (.int v)) (h2 : V y = some (.int u)) : argsP V [.var x 0, .var y 0] = some [v, u] := by simp [argsP, dpE, evE, h, h2]
theorem find_f (d : Dr) : ([fnA d, fnB d] : List Fn).find? (fun g => decide (g.name = ("f" : Str))) = some (fnA d) := by simp [fnA]
theorem find_g (d : Dr) : ([fnA d, fnB d] : List Fn).find? (fun g => decide (g.name = ("g" : Str))) = some (fnB d) := by
  have h : ¬ ("f" : Str) = "g" := n_fg
  simp [fnA, fnB, h]
theorem snd_run (d : Dr) (mm k : Nat) (hm : mm = k + 3) (u v : Int) (es : List Ev) : ∃ V', runL (runS [] [fnA d, fnB d] mm) (wo (parV (fun _ => none) ["x", "y"] [u, v]) (fun _ => none) es) (fnB d).body = some (wo V' (fun _ => none) (es ++ sndE d v), match sndV d v with
    | some n => some (.ret n)
    | none => some (.fault 12 "check")) := by
  subst hm
  have hP : parV (fun _ => none) ["x", "y"] [u, v] = setV (setV (fun _ => none) "x" (.int u)) "y" (.int v) := rfl
  rw [hP]
  have hy : setV (setV (fun _ => none) "x" (.int u)) "y" (.int v) "y" = some (.int v) := setV_same
  generalize setV (setV (fun _ => none) "x" (.int u)) "y" (.int v) = V0 at *
  obtain ⟨V1, e1⟩ := fst_run (fns := [fnA d, fnB d]) d (k + 2) k rfl v (es ++ [.row 11])
  have hc := call1 (fns := [fnA d, fnB d]) (d := k + 2) (V := V0) (G := fun _ => none) (es := es) (row := 11) (x := "x") (f := "f") (as := [.var "y" 0]) (find_f d) rfl (by simp) (arg1 hy) e1 (rets_v d v)
  have hs := sto1 (V := V0) (G := fun _ => none) (es := es ++ [.row 11] ++ fstE d v) (row := 11) (x := "x") (i := fstV d v) rfl
  rw [hs] at hc
  generalize hV : setV V0 "x" (.int (fstV d v)) = V at *
  have hx : V "x" = some (.int (fstV d v)) := by rw [← hV]; exact setV_same
  have ha := askB (G := fun _ => none) (es := es ++ [.row 11] ++ fstE d v) (row := 12) (evLe (s := d.d3) hx)
  have hchk : runS [] [fnA d, fnB d] (k + 3) (wo V (fun _ => none) (es ++ [.row 11] ++ fstE d v)) (.check_ 12 (.cmp "<=" (.var "x" 0) (.num d.d3))) = chkP [] (wo V (fun _ => none) (es ++ [.row 11] ++ fstE d v)) 12 (.cmp "<=" (.var "x" 0) (.num d.d3)) := by
    show stmP [] _ _ _ _ = _
    simp only [stmP]
    rw [if_pos (by simp [dpC])]
  refine ⟨V, ?_⟩
  rw [show (fnB d).body = [.call_ 11 "x" "f" [.var "y" 0], .check_ 12 (.cmp "<=" (.var "x" 0) (.num d.d3)), .return_ 13 (.var "x" 1)] from rfl, runL_cons0 hc]
  unfold sndE sndV
  by_cases c : fstV d v ≤ d.d3
  · rw [if_pos c, if_pos c]
    rw [decide_eq_true c, if_pos rfl] at ha
    have h3 : runS [] [fnA d, fnB d] (k + 3) (wo V (fun _ => none) (es ++ [.row 11] ++ fstE d v)) (.check_ 12 (.cmp "<=" (.var "x" 0) (.num d.d3))) = some (wo V (fun _ => none) (es ++ [.row 11] ++ fstE d v ++ [.row 12, .yes 12]), none) := by
      rw [hchk]; unfold chkP; rw [ha]; rfl
    have h4 := (res1 (fns := [fnA d, fnB d]) (d := k + 2) (G := fun _ => none) (es := es ++ [.row 11] ++ fstE d v ++ [.row 12, .yes 12]) (row := 13) (c := 1) hx).1
    rw [runL_cons0 h3, runL_cons1 h4]
    simp
  · rw [if_neg c, if_neg c]
    rw [decide_eq_false c, if_neg (by simp)] at ha
    have h3 : runS [] [fnA d, fnB d] (k + 3) (wo V (fun _ => none) (es ++ [.row 11] ++ fstE d v)) (.check_ 12 (.cmp "<=" (.var "x" 0) (.num d.d3))) = some (wo V (fun _ => none) (es ++ [.row 11] ++ fstE d v ++ [.row 12, .no 12] ++ [.fault 12 "check"]), some (.fault 12 "check")) := by
      rw [hchk]; unfold chkP; rw [ha]
      simp only [Option.bind_some]
      exact flt0
    rw [runL_cons1 h3]
    simp
theorem call17 {d : Dr} {V : Vs} {G : Str → Option (Int × Int)} {a : Int} {es : List Ev} (k : Nat) (hVa : V "a" = some (.int a)) : runS [] [fnA d, fnB d] (k + 4) (wo V G es) (.call_ 17 "r" "f" [.var "a" 0]) = sto [] (wo V G (es ++ [.row 17] ++ fstE d a)) 17 "r" (some (fstV d a)) := by
  obtain ⟨Vx, e1⟩ := fst_run (fns := [fnA d, fnB d]) d (k + 3) (k + 1) rfl a (es ++ [.row 17])
  exact call1 (fns := [fnA d, fnB d]) (d := k + 3) (V := V) (G := G) (es := es) (row := 17) (x := "r") (f := "f") (as := [.var "a" 0]) (find_f d) rfl (by simp) (arg1 hVa) e1 (rets_v d a)
theorem call18a {d : Dr} {V : Vs} {G : Str → Option (Int × Int)} {u v n : Int} {es : List Ev} (k : Nat) (hn : V "n" = some (.int u)) (hr : V "r" = some (.int v)) (hs : sndV d v = some n) : runS [] [fnA d, fnB d] (k + 4) (wo V G es) (.call_ 18 "n" "g" [.var "n" 0, .var "r" 0]) = sto [] (wo V G (es ++ [.row 18] ++ sndE d v)) 18 "n" (some n) := by
  obtain ⟨Vx, e1⟩ := snd_run d (k + 3) k rfl u v (es ++ [.row 18])
  rw [hs] at e1
  exact call1 (fns := [fnA d, fnB d]) (d := k + 3) (V := V) (G := G) (es := es) (row := 18) (x := "n") (f := "g") (as := [.var "n" 0, .var "r" 0]) (find_g d) rfl (by simp) (arg2 hn hr) e1 (.inr rfl)
theorem call18b {d : Dr} {V : Vs} {G : Str → Option (Int × Int)} {u v : Int} {es : List Ev} (k : Nat) (hn : V "n" = some (.int u)) (hr : V "r" = some (.int v)) (hs : sndV d v = none) : runS [] [fnA d, fnB d] (k + 4) (wo V G es) (.call_ 18 "n" "g" [.var "n" 0, .var "r" 0]) = some (wo V G (es ++ [.row 18] ++ sndE d v), some (.fault 12 "check")) := by
  obtain ⟨Vx, e1⟩ := snd_run d (k + 3) k rfl u v (es ++ [.row 18])
  rw [hs] at e1
  exact call2 (fns := [fnA d, fnB d]) (d := k + 3) (V := V) (G := G) (es := es) (row := 18) (x := "n") (f := "g") (as := [.var "n" 0, .var "r" 0]) (find_g d) rfl (by simp) (arg2 hn hr) e1
theorem inG_r (d : Dr) (v : Int) : inG (setG (fun _ => none) "r" (d.lo, d.hi)) "r" v = decide (inD d v) := by
  unfold inG setG inD
  rw [if_pos rfl]
  simp only
  by_cases h1 : d.lo ≤ v <;> by_cases h2 : v ≤ d.hi <;> simp [h1, h2]
theorem n_all : ("n" : Str) ≠ "r" ∧ ("b" : Str) ≠ "n" ∧ ("a" : Str) ≠ "r" ∧ ("a" : Str) ≠ "b" ∧ ("b" : Str) ≠ "r" := by decide +kernel
theorem hG {d : Dr} {v : Int} (c : inD d v) : inG (setG (fun _ => none) "r" (d.lo, d.hi)) "r" v = true := by rw [inG_r]; exact decide_eq_true c
theorem hN {d : Dr} {v : Int} (c : ¬ inD d v) : inG (setG (fun _ => none) "r" (d.lo, d.hi)) "r" v = false := by rw [inG_r]; exact decide_eq_false c
theorem inG_n (d : Dr) (v : Int) : inG (setG (fun _ => none) "r" (d.lo, d.hi)) "n" v = true := by
  unfold inG setG
  rw [if_neg n_all.1]
theorem body_run (k : Nat) {d : Dr} {a b : Int} {V0 : Vs} (hVa : V0 "a" = some (.int a)) (hVb : V0 "b" = some (.int b)) : ∃ V G, runL (runS [] [fnA d, fnB d] (k + 4)) (wo V0 (fun _ => none) []) (bodyP d) = some (wo V G (lawE d a b).1, some (lawE d a b).2) := by
  obtain ⟨nr, bn, ar, ab, br⟩ := n_all
  have l1 := let1 (fns := [fnA d, fnB d]) (d := k + 3) (V := V0) (G := fun _ => none) (es := []) (row := 15) (x := "n") (e := .num d.d4) (i := d.d4) rfl (by simp [dpE]) rfl
  have hVa1 : setV V0 "n" (.int d.d4) "a" = some (.int a) := by rw [setV_ne m_an]; exact hVa
  have hVb1 : setV V0 "n" (.int d.d4) "b" = some (.int b) := by rw [setV_ne bn]; exact hVb
  have hVn1 : setV V0 "n" (.int d.d4) "n" = some (.int d.d4) := setV_same
  generalize setV V0 "n" (.int d.d4) = V1 at *
  unfold bodyP
  rw [runL_cons0 l1]
  have evb : evE V1 (.var "b" 0) = some (some b) := by simpa using evV (c := 0) hVb1
  unfold lawE
  by_cases c1 : inD d b
  · rw [if_neg (not_not_intro c1)]
    have l2 := letG1 (fns := [fnA d, fnB d]) (d := k + 3) (V := V1) (G := fun _ => none) (es := [] ++ [.row 15]) (row := 16) (x := "r") (p := (d.lo, d.hi)) evb (by simp [dpE]) (hG c1)
    rw [runL_cons0 l2]
    have hVa2 : setV V1 "r" (.int b) "a" = some (.int a) := by rw [setV_ne ar]; exact hVa1
    have hVb2 : setV V1 "r" (.int b) "b" = some (.int b) := by rw [setV_ne br]; exact hVb1
    have hVn2 : setV V1 "r" (.int b) "n" = some (.int d.d4) := by rw [setV_ne nr]; exact hVn1
    generalize setV V1 "r" (.int b) = V2 at *
    have c17 := call17 (d := d) (G := setG (fun _ => none) "r" (d.lo, d.hi)) (es := [] ++ [.row 15] ++ [.row 16]) k hVa2
    by_cases c2 : inD d (fstV d a)
    · rw [if_neg (not_not_intro c2)]
      have s17 := sto1 (V := V2) (G := setG (fun _ => none) "r" (d.lo, d.hi)) (es := [] ++ [.row 15] ++ [.row 16] ++ [.row 17] ++ fstE d a) (row := 17) (x := "r") (i := fstV d a) (hG c2)
      rw [s17] at c17
      rw [runL_cons0 c17]
      have hVa3 : setV V2 "r" (.int (fstV d a)) "a" = some (.int a) := by rw [setV_ne ar]; exact hVa2
      have hVb3 : setV V2 "r" (.int (fstV d a)) "b" = some (.int b) := by rw [setV_ne br]; exact hVb2
      have hVn3 : setV V2 "r" (.int (fstV d a)) "n" = some (.int d.d4) := by rw [setV_ne nr]; exact hVn2
      have hVr3 : setV V2 "r" (.int (fstV d a)) "r" = some (.int (fstV d a)) := setV_same
      generalize setV V2 "r" (.int (fstV d a)) = V3 at *
      cases hs : sndV d (fstV d a) with
      | none =>
        have c18 := call18b (d := d) (G := setG (fun _ => none) "r" (d.lo, d.hi)) (es := [] ++ [.row 15] ++ [.row 16] ++ [.row 17] ++ fstE d a) k hVn3 hVr3 hs
        refine ⟨V3, setG (fun _ => none) "r" (d.lo, d.hi), ?_⟩
        rw [runL_cons1 c18]
        simp
      | some n =>
        have c18 := call18a (d := d) (G := setG (fun _ => none) "r" (d.lo, d.hi)) (es := [] ++ [.row 15] ++ [.row 16] ++ [.row 17] ++ fstE d a) k hVn3 hVr3 hs
        have s18 := sto1 (V := V3) (G := setG (fun _ => none) "r" (d.lo, d.hi)) (es := [] ++ [.row 15] ++ [.row 16] ++ [.row 17] ++ fstE d a ++ [.row 18] ++ sndE d (fstV d a)) (row := 18) (x := "n") (i := n) (inG_n d n)
        rw [s18] at c18
        rw [runL_cons0 c18]
        have hVa4 : setV V3 "n" (.int n) "a" = some (.int a) := by rw [setV_ne m_an]; exact hVa3
        have hVb4 : setV V3 "n" (.int n) "b" = some (.int b) := by rw [setV_ne bn]; exact hVb3
        have hVn4 : setV V3 "n" (.int n) "n" = some (.int n) := setV_same
        generalize setV V3 "n" (.int n) = V4 at *
        have evn : evE V4 (.var "n" (-1)) = some (some (n - 1)) := evV hVn4
        simp only
        by_cases c3 : inD d (n - 1)
        · rw [if_neg (not_not_intro c3)]
          have s19 := set1 (fns := [fnA d, fnB d]) (d := k + 3) (V := V4) (G := setG (fun _ => none) "r" (d.lo, d.hi)) (es := [] ++ [.row 15] ++ [.row 16] ++ [.row 17] ++ fstE d a ++ [.row 18] ++ sndE d (fstV d a)) (row := 19) (x := "r") evn (by simp [dpE]) (hG c3)
          rw [runL_cons0 s19]
          have hVa5 : setV V4 "r" (.int (n - 1)) "a" = some (.int a) := by rw [setV_ne ar]; exact hVa4
          have hVb5 : setV V4 "r" (.int (n - 1)) "b" = some (.int b) := by rw [setV_ne br]; exact hVb4
          have hVn5 : setV V4 "r" (.int (n - 1)) "n" = some (.int n) := by rw [setV_ne nr]; exact hVn4
          have hVr5 : setV V4 "r" (.int (n - 1)) "r" = some (.int (n - 1)) := setV_same
          generalize setV V4 "r" (.int (n - 1)) = V5 at *
          have hans : V5 (nmR d.d7) = some (.int (ans d a b n (n - 1))) := by
            unfold ans nmR
            split <;> assumption
          have s20 := (res1 (fns := [fnA d, fnB d]) (d := k + 3) (G := setG (fun _ => none) "r" (d.lo, d.hi)) (es := [] ++ [.row 15] ++ [.row 16] ++ [.row 17] ++ fstE d a ++ [.row 18] ++ sndE d (fstV d a) ++ [.row 19]) (row := 20) (c := 0) hans).2
          refine ⟨V5, setG (fun _ => none) "r" (d.lo, d.hi), ?_⟩
          rw [runL_cons1 s20]
          simp
        · rw [if_pos c3]
          have s19 := set2 (fns := [fnA d, fnB d]) (d := k + 3) (V := V4) (G := setG (fun _ => none) "r" (d.lo, d.hi)) (es := [] ++ [.row 15] ++ [.row 16] ++ [.row 17] ++ fstE d a ++ [.row 18] ++ sndE d (fstV d a)) (row := 19) (x := "r") evn (by simp [dpE]) (hN c3)
          refine ⟨V4, setG (fun _ => none) "r" (d.lo, d.hi), ?_⟩
          rw [runL_cons1 s19]
          simp
    · rw [if_pos c2]
      have s17 := sto2 (V := V2) (G := setG (fun _ => none) "r" (d.lo, d.hi)) (es := [] ++ [.row 15] ++ [.row 16] ++ [.row 17] ++ fstE d a) (row := 17) (x := "r") (i := fstV d a) (hN c2)
      rw [s17] at c17
      refine ⟨V2, setG (fun _ => none) "r" (d.lo, d.hi), ?_⟩
      rw [runL_cons1 c17]
      simp
  · rw [if_pos c1]
    have l2 := letG2 (fns := [fnA d, fnB d]) (d := k + 3) (V := V1) (G := fun _ => none) (es := [] ++ [.row 15]) (row := 16) (x := "r") (p := (d.lo, d.hi)) evb (by simp [dpE]) (hN c1)
    refine ⟨V1, setG (fun _ => none) "r" (d.lo, d.hi), ?_⟩
    rw [runL_cons1 l2]
    simp
theorem body_run9 {d : Dr} {a b : Int} {V0 : Vs} (hVa : V0 "a" = some (.int a)) (hVb : V0 "b" = some (.int b)) : ∃ V G, runL (runS [] [fnA d, fnB d] 9) (wo V0 (fun _ => none) []) (bodyP d) = some (wo V G (lawE d a b).1, some (lawE d a b).2) := body_run 5 hVa hVb
theorem prog_run {d : Dr} {a b : Int} (ha : -20 ≤ a ∧ a ≤ 20) (hb : -20 ≤ b ∧ b ≤ 20) : ∃ V G, runP [] (prP d) [a, b] = some (wo V G (lawE d a b).1, some (lawE d a b).2) := by
  obtain ⟨nr, bn, ar, ab, br⟩ := n_all
  have hin : inR [a, b] (unk [⟨"a", 0, -20, 20⟩, ⟨"b", 0, -20, 20⟩]) = true := by simp [unk, inR, ha, hb]
  have hV0 : inV [⟨"a", 0, -20, 20⟩, ⟨"b", 0, -20, 20⟩] [a, b] (fun _ => none) = setV (setV (fun _ => none) "a" (.int a)) "b" (.int b) := by simp [inV]
  obtain ⟨V, G, e⟩ := body_run9 (d := d) (a := a) (b := b) (V0 := setV (setV (fun _ => none) "a" (.int a)) "b" (.int b)) (by rw [setV_ne ab, setV_same]) setV_same
  refine ⟨V, G, ?_⟩
  rw [← e]
  unfold runP prP
  simp only
  rw [if_pos hin, hV0]
  rfl
end Lk13



namespace Lk13
open PySem L2 M
/-! the law's own steps -/
def dsI (d : Dr) : List Int := [d.d0, d.d1, d.d2, d.d3, d.d4, d.lo, d.hi, (d.d7 : Int)]
theorem ix0 (d : Dr) : atI (I (dsI d)) 0 = some (.int d.d0) := atI_0
theorem ix1 (d : Dr) : atI (I (dsI d)) 1 = some (.int d.d1) := atI_1
theorem ix2 (d : Dr) : atI (I (dsI d)) 2 = some (.int d.d2) := atI_2
theorem ix3 (d : Dr) : atI (I (dsI d)) 3 = some (.int d.d3) := atI_3
theorem ix4 (d : Dr) : atI (I (dsI d)) 4 = some (.int d.d4) := atI_4
theorem ix5 (d : Dr) : atI (I (dsI d)) 5 = some (.int d.lo) := atI_5
theorem ix6 (d : Dr) : atI (I (dsI d)) 6 = some (.int d.hi) := atI_6
theorem ix7 (d : Dr) : atI (I (dsI d)) 7 = some (.int (d.d7 : Int)) := atI_7
theorem nm_ix (d : Dr) (h : d.d7 < 4) : atI [M.D.str "a", .str "b", .str "n", .str "r"] (d.d7 : Int) = some (.str (nmR d.d7)) := by
  have : d.d7 = 0 ∨ d.d7 = 1 ∨ d.d7 = 2 ∨ d.d7 = 3 := by omega
  rcases this with h | h | h | h <;> rw [h]
  · exact atI_0
  · exact atI_1
  · exact atI_2
  · exact atI_3
def objP (ca : Nat → Addr) (d : Dr) : Cell := .obj (ca 3) [("inputs", .tup ((prP d).ins.map encI)), ("functions", .tup ((prP d).fns.map encF)), ("body", .tup (encB (prP d).body))]
theorem program_ok (ca : Nat → Addr) (d : Dr) (h : d.d7 < 4) (m : List Cell) : f_law_program ca [.lst (I (dsI d))] m = some (.ref m.length, m ++ [objP ca d]) := by
  have hp := prog_make (ca := ca) (m := m) (a := [.tup [.str "a", .int 0, .int (-20), .int 20], .tup [.str "b", .int 0, .int (-20), .int 20]]) (b := [encF (fnA d), encF (fnB d)]) (c := encB (bodyP d))
  have hA : encF (fnA d) = .tup [.int 3, .str "f", .tup [.str "a"], .tup [.tup [.str "let", .int 4, .str "n", .non, .non, .tup [.str "var", .str "a", .int 3]], .tup [.str "set", .int 5, .str "a", .tup [.str "var", .str "n", .int d.d2]], .tup [.str "if", .int 6, .tup [.str "cmp", .str "<", .tup [.str "var", .str "a", .int 0], .tup [.str "num", .int d.d0]], .tup [.tup [.str "return", .int 7, .tup [.str "var", .str "a", .int d.d1]]], .tup []]]] := by
    simp [encF, fnA, encB, encS, encC, encE, oLo, oHi]
  have hB : encF (fnB d) = .tup [.int 10, .str "g", .tup [.str "x", .str "y"], .tup [.tup [.str "call", .int 11, .str "x", .str "f", .tup [.tup [.str "var", .str "y", .int 0]]], .tup [.str "check", .int 12, .tup [.str "cmp", .str "<=", .tup [.str "var", .str "x", .int 0], .tup [.str "num", .int d.d3]]], .tup [.str "return", .int 13, .tup [.str "var", .str "x", .int 1]]]] := by
    simp [encF, fnB, encB, encS, encC, encE]
  have hC : encB (bodyP d) = [.tup [.str "let", .int 15, .str "n", .non, .non, .tup [.str "num", .int d.d4]], .tup [.str "let", .int 16, .str "r", .int d.lo, .int d.hi, .tup [.str "var", .str "b", .int 0]], .tup [.str "call", .int 17, .str "r", .str "f", .tup [.tup [.str "var", .str "a", .int 0]]], .tup [.str "call", .int 18, .str "n", .str "g", .tup [.tup [.str "var", .str "n", .int 0], .tup [.str "var", .str "r", .int 0]]], .tup [.str "set", .int 19, .str "r", .tup [.str "var", .str "n", .int (-1)]], .tup [.str "answer", .int 20, .tup [.str "var", .str (nmR d.d7), .int 0]]] := by
    simp [bodyP, encB, encS, encE, oLo, oHi]
  have hO : objP ca d = .obj (ca 3) [("inputs", .tup [.tup [.str "a", .int 0, .int (-20), .int 20], .tup [.str "b", .int 0, .int (-20), .int 20]]), ("functions", .tup [encF (fnA d), encF (fnB d)]), ("body", .tup (encB (bodyP d)))] := rfl
  rw [hO]
  rw [hA, hB, hC] at hp ⊢
  have i0 := ix0 d
  have i1 := ix1 d
  have i2 := ix2 d
  have i3 := ix3 d
  have i4 := ix4 d
  have i5 := ix5 d
  have i6 := ix6 d
  have i7 := ix7 d
  have hn := nm_ix d h
  generalize I (dsI d) = DS at *
  generalize nmR d.d7 = NN at *
  unfold f_law_program b_law_program t_law_program_8 t_law_program_7 t_law_program_6 t_law_program_5 t_law_program_4 t_law_program_3 t_law_program_2 t_law_program_1
  generalize f_Program___init__ ca = fp at *
  simp [fnM_ap, i0, i1, i2, i3, i4, i5, i6, i7, hn, hp]
theorem first_ok {kE : Nat} {d : Dr} {v : Int} {L : List Ev} {m : List Cell} (h : m[kE]? = some (.lst (L.map encV))) (hL : L.length ≤ 1000) : f_law_first [.ref kE, .lst (I (dsI d)), .int v] m = some (.int (fstV d v), m.set kE (.lst ((L ++ fstE d v).map encV))) := by
  have hk : kE < m.length := (List.getElem?_eq_some_iff.mp h).1
  have g : ∀ c : Cell, (m.set kE c)[kE]? = some c := fun c => List.getElem?_set_self hk
  have b0 : (L.map encV).length ≤ 1000 := by simpa using hL
  have b1 : (L.map encV).length < 1000000 := by omega
  have b2 : (L.map encV).length + 1 < 1000000 := by omega
  have b3 : (L.map encV).length + 2 < 1000000 := by omega
  have b4 : (L.map encV).length + 3 < 1000000 := by omega
  have b5 : (L.map encV).length + 4 < 1000000 := by omega
  have i0 := ix0 d
  have i1 := ix1 d
  have i2 := ix2 d
  unfold fstV fstE
  by_cases c : v + 3 + d.d2 < d.d0
  · rw [if_pos c, if_pos c]
    have hev : (L ++ [Ev.row 4, .row 5, .row 6, .yes 6, .row 7]).map encV = L.map encV ++ [.tup [.str "row", .int 4], .tup [.str "row", .int 5], .tup [.str "row", .int 6], .tup [.str "yes", .int 6], .tup [.str "row", .int 7]] := by simp [encV]
    rw [hev]
    generalize I (dsI d) = DS at *
    generalize L.map encV = LL at *
    unfold f_law_first b_law_first t_law_first_5 t_law_first_4 t_law_first_3 t_law_first_2
    generalize t_law_first_1 = tl
    revert tl; refine opq ?_; intro tl
    simp [fnM_ap, h, g, b1, b2, b3, b4, b5, i0, i1, i2, c, List.set_set]
  · rw [if_neg c, if_neg c]
    have hev : (L ++ [Ev.row 4, .row 5, .row 6, .no 6]).map encV = L.map encV ++ [.tup [.str "row", .int 4], .tup [.str "row", .int 5], .tup [.str "row", .int 6], .tup [.str "no", .int 6]] := by simp [encV]
    rw [hev]
    generalize I (dsI d) = DS at *
    generalize L.map encV = LL at *
    unfold f_law_first b_law_first t_law_first_5 t_law_first_4 t_law_first_3 t_law_first_2 t_law_first_1
    simp [fnM_ap, h, g, b1, b2, b3, b4, i0, i1, i2, c, List.set_set]
theorem cells_app {m : List Cell} {k : Nat} {L : List Ev} (h : m[k]? = some (.lst (L.map encV))) (es : List Ev) : (m.set k (.lst ((L ++ es).map encV)))[k]? = some (.lst ((L ++ es).map encV)) := List.getElem?_set_self (List.getElem?_eq_some_iff.mp h).1
theorem fstE_len (d : Dr) (v : Int) : (fstE d v).length ≤ 5 := by unfold fstE; split <;> simp
theorem sndE_len (d : Dr) (v : Int) : (sndE d v).length ≤ 20 := by
  have := fstE_len d v
  unfold sndE; split <;> (simp; omega)
theorem second_ok {kE : Nat} {d : Dr} {v : Int} {L : List Ev} {m : List Cell} (h : m[kE]? = some (.lst (L.map encV))) (hL : L.length ≤ 900) : f_law_second [.ref kE, .lst (I (dsI d)), .int v] m = some (oZ (sndV d v), m.set kE (.lst ((L ++ sndE d v).map encV))) := by
  have hk : kE < m.length := (List.getElem?_eq_some_iff.mp h).1
  have g : ∀ c : Cell, (m.set kE c)[kE]? = some c := fun c => List.getElem?_set_self hk
  have b1 : (L.map encV).length < 1000000 := by simp; omega
  have h1 := cells_app h [Ev.row 11]
  have hf := first_ok (d := d) (v := v) h1 (by simp; omega)
  rw [List.set_set, List.append_assoc] at hf
  have i3 := ix3 d
  have he1 : (L ++ [Ev.row 11]).map encV = L.map encV ++ [.tup [.str "row", .int 11]] := by simp [encV]
  rw [he1] at hf
  have hle := fstE_len d v
  have b2 : ((L ++ ([Ev.row 11] ++ fstE d v)).map encV).length ≤ 1000 := by simp; omega
  have b3 : ((L ++ ([Ev.row 11] ++ fstE d v)).map encV).length < 1000000 := by omega
  have b4 : ((L ++ ([Ev.row 11] ++ fstE d v)).map encV).length + 1 < 1000000 := by omega
  have b5 : ((L ++ ([Ev.row 11] ++ fstE d v)).map encV).length + 2 < 1000000 := by omega
  unfold sndV sndE
  by_cases c : fstV d v ≤ d.d3
  · rw [if_pos c, if_pos c]
    have hev : (L ++ ([Ev.row 11] ++ fstE d v ++ [Ev.row 12, .yes 12, .row 13])).map encV = (L ++ ([Ev.row 11] ++ fstE d v)).map encV ++ [.tup [.str "row", .int 12], .tup [.str "yes", .int 12], .tup [.str "row", .int 13]] := by simp [encV]
    rw [hev]
    generalize (L ++ ([Ev.row 11] ++ fstE d v)).map encV = L2 at *
    generalize I (dsI d) = DS at *
    generalize fstV d v = FV at *
    generalize L.map encV = LL at *
    unfold f_law_second b_law_second t_law_second_5 t_law_second_4 t_law_second_3
    generalize t_law_second_2 = tl
    generalize f_law_first = ff at *
    revert tl; refine opq ?_; intro tl
    simp [fnM_ap, h, g, b1, b3, b4, b5, i3, hf, c, List.set_set, oZ]
  · rw [if_neg c, if_neg c]
    have hev : (L ++ ([Ev.row 11] ++ fstE d v ++ [Ev.row 12, .no 12, .fault 12 "check"])).map encV = (L ++ ([Ev.row 11] ++ fstE d v)).map encV ++ [.tup [.str "row", .int 12], .tup [.str "no", .int 12], .tup [.str "fault", .int 12, .str "check"]] := by simp [encV]
    rw [hev]
    generalize (L ++ ([Ev.row 11] ++ fstE d v)).map encV = L2 at *
    generalize I (dsI d) = DS at *
    generalize fstV d v = FV at *
    generalize L.map encV = LL at *
    unfold f_law_second b_law_second t_law_second_5 t_law_second_4 t_law_second_3 t_law_second_2 t_law_second_1
    generalize f_law_first = ff at *
    simp [fnM_ap, h, g, b1, b3, b4, b5, i3, hf, c, List.set_set, oZ]
end Lk13



namespace Lk13
open PySem L2 M
/-! the law's run, and the answers told -/
theorem ans_ix (d : Dr) (h : d.d7 < 4) (a b n r : Int) : atI [M.D.int a, .int b, .int n, .int r] (d.d7 : Int) = some (.int (ans d a b n r)) := by
  have : d.d7 = 0 ∨ d.d7 = 1 ∨ d.d7 = 2 ∨ d.d7 = 3 := by omega
  unfold ans
  rcases this with h | h | h | h <;> rw [h]
  · exact atI_0
  · exact atI_1
  · exact atI_2
  · exact atI_3
theorem steps_in {d : Dr} {a b : Int} {m m2 : List Cell} {x4 x5 : M.Slot} {R : M.D} {S2 : List M.Slot} (e : t_law_steps_11 ⟨[.val (.lst (I (dsI d))), .val (.int a), .val (.int b), .val (.ref m.length), .emp, .emp], m ++ [.lst ([Ev.row 15, .row 16].map encV)]⟩ = some (.rt R, ⟨S2, m2⟩)) : f_law_steps [.lst (I (dsI d)), .int a, .int b] m = some (R, m2) := by
  have e' : t_law_steps_11 ⟨[.val (.lst (I (dsI d))), .val (.int a), .val (.int b), .val (.ref m.length), .emp, .emp], m ++ [.lst [.tup [.str "row", .int 15], .tup [.str "row", .int 16]]]⟩ = some (.rt R, ⟨S2, m2⟩) := e
  unfold f_law_steps b_law_steps
  generalize t_law_steps_11 = tl at *
  revert tl; refine opq ?_; intro tl e e'
  simp [fnM_ap, e']
def St6 (d : Dr) (a b : Int) (kE : Nat) (x4 x5 : M.Slot) (m : List Cell) : Ms := ⟨[.val (.lst (I (dsI d))), .val (.int a), .val (.int b), .val (.ref kE), x4, x5], m⟩
theorem st_flt {d : Dr} {v : Int} {LL : List M.D} {row : Int} {kE : Nat} {m : List Cell} (h : m[kE]? = some (.lst LL)) (hl : LL.length < 1000) (c : ¬ inD d v) : (v < d.lo ∨ v > d.hi) := by
  unfold inD at c; omega
section
variable {d : Dr} {a b : Int} {kE : Nat} {m : List Cell} {LL : List M.D} {x4 x5 : M.Slot}
theorem k11f (h : m[kE]? = some (.lst LL)) (hl : LL.length < 1000) (c : ¬ inD d b) : t_law_steps_11 (St6 d a b kE x4 x5 m) = some (.rt (.lst [.ref kE, .tup [.str "fault", .int 16, .str "range"]]), St6 d a b kE x4 x5 (m.set kE (.lst (LL ++ [.tup [.str "fault", .int 16, .str "range"]])))) := by
  have i5 := ix5 d
  have i6 := ix6 d
  have b1 : LL.length < 1000000 := by omega
  unfold St6
  generalize I (dsI d) = DS at *
  unfold t_law_steps_11
  generalize t_law_steps_10 = tl
  revert tl; refine opq ?_; intro tl
  unfold inD at c
  by_cases c1 : b < d.lo
  · simp [h, b1, i5, i6, c1]
  · have c2 : d.hi < b := by omega
    simp [h, b1, i5, i6, c1, c2]
theorem k11t (c : inD d b) {r : Int} {L2 : List M.D} (h : m[kE]? = some (.lst LL)) (hl : LL.length < 1000) (hf : f_law_first [.ref kE, .lst (I (dsI d)), .int a] (m.set kE (.lst (LL ++ [.tup [.str "row", .int 17]]))) = some (.int r, m.set kE (.lst L2))) : t_law_steps_11 (St6 d a b kE x4 x5 m) = t_law_steps_8 (St6 d a b kE (.val (.int r)) x5 (m.set kE (.lst L2))) := by
  have i5 := ix5 d
  have i6 := ix6 d
  have b1 : LL.length < 1000000 := by omega
  unfold St6
  generalize I (dsI d) = DS at *
  unfold t_law_steps_11 t_law_steps_10 t_law_steps_9
  generalize t_law_steps_8 = tl
  generalize f_law_first = ff at *
  revert tl; refine opq ?_; intro tl
  unfold inD at c
  have c1 : ¬ b < d.lo := by omega
  have c2 : ¬ d.hi < b := by omega
  simp [h, b1, i5, i6, c1, c2, hf]
theorem k8f {r : Int} (h : m[kE]? = some (.lst LL)) (hl : LL.length < 1000) (c : ¬ inD d r) : t_law_steps_8 (St6 d a b kE (.val (.int r)) x5 m) = some (.rt (.lst [.ref kE, .tup [.str "fault", .int 17, .str "range"]]), St6 d a b kE (.val (.int r)) x5 (m.set kE (.lst (LL ++ [.tup [.str "fault", .int 17, .str "range"]])))) := by
  have i5 := ix5 d
  have i6 := ix6 d
  have b1 : LL.length < 1000000 := by omega
  unfold St6
  generalize I (dsI d) = DS at *
  unfold t_law_steps_8
  generalize t_law_steps_7 = tl
  revert tl; refine opq ?_; intro tl
  unfold inD at c
  by_cases c1 : r < d.lo
  · simp [h, b1, i5, i6, c1]
  · have c2 : d.hi < r := by omega
    simp [h, b1, i5, i6, c1, c2]
theorem k8n {r : Int} (c : inD d r) {L2 : List M.D} (h : m[kE]? = some (.lst LL)) (hl : LL.length < 1000) (hf : f_law_second [.ref kE, .lst (I (dsI d)), .int r] (m.set kE (.lst (LL ++ [.tup [.str "row", .int 18]]))) = some (.non, m.set kE (.lst L2))) : t_law_steps_8 (St6 d a b kE (.val (.int r)) x5 m) = some (.rt (.lst [.ref kE, .tup [.str "fault", .int 12, .str "check"]]), St6 d a b kE (.val (.int r)) (.val .non) (m.set kE (.lst L2))) := by
  have i5 := ix5 d
  have i6 := ix6 d
  have b1 : LL.length < 1000000 := by omega
  unfold St6
  generalize I (dsI d) = DS at *
  unfold t_law_steps_8 t_law_steps_7 t_law_steps_6 t_law_steps_5
  generalize t_law_steps_4 = tl
  generalize f_law_second = ff at *
  revert tl; refine opq ?_; intro tl
  unfold inD at c
  have c1 : ¬ r < d.lo := by omega
  have c2 : ¬ d.hi < r := by omega
  simp [h, b1, i5, i6, c1, c2, hf]
theorem k8s {r n : Int} (c : inD d r) {L2 : List M.D} (h : m[kE]? = some (.lst LL)) (hl : LL.length < 1000) (hl2 : L2.length < 1000) (hf : f_law_second [.ref kE, .lst (I (dsI d)), .int r] (m.set kE (.lst (LL ++ [.tup [.str "row", .int 18]]))) = some (.int n, m.set kE (.lst L2))) : t_law_steps_8 (St6 d a b kE (.val (.int r)) x5 m) = t_law_steps_2 (St6 d a b kE (.val (.int (n - 1))) (.val (.int n)) (m.set kE (.lst (L2 ++ [.tup [.str "row", .int 19]])))) := by
  have hk : kE < m.length := (List.getElem?_eq_some_iff.mp h).1
  have g : ∀ c : Cell, (m.set kE c)[kE]? = some c := fun c => List.getElem?_set_self hk
  have i5 := ix5 d
  have i6 := ix6 d
  have b1 : LL.length < 1000000 := by omega
  have b2 : L2.length < 1000000 := by omega
  unfold St6
  generalize I (dsI d) = DS at *
  unfold t_law_steps_8 t_law_steps_7 t_law_steps_6 t_law_steps_5 t_law_steps_4 t_law_steps_3
  generalize t_law_steps_2 = tl
  generalize f_law_second = ff at *
  revert tl; refine opq ?_; intro tl
  unfold inD at c
  have c1 : ¬ r < d.lo := by omega
  have c2 : ¬ d.hi < r := by omega
  simp [h, g, b1, b2, i5, i6, c1, c2, hf, List.set_set]
theorem k2f {r n : Int} (h : m[kE]? = some (.lst LL)) (hl : LL.length < 1000) (c : ¬ inD d r) : t_law_steps_2 (St6 d a b kE (.val (.int r)) (.val (.int n)) m) = some (.rt (.lst [.ref kE, .tup [.str "fault", .int 19, .str "range"]]), St6 d a b kE (.val (.int r)) (.val (.int n)) (m.set kE (.lst (LL ++ [.tup [.str "fault", .int 19, .str "range"]])))) := by
  have i5 := ix5 d
  have i6 := ix6 d
  have b1 : LL.length < 1000000 := by omega
  unfold St6
  generalize I (dsI d) = DS at *
  unfold t_law_steps_2
  generalize t_law_steps_1 = tl
  revert tl; refine opq ?_; intro tl
  unfold inD at c
  by_cases c1 : r < d.lo
  · simp [h, b1, i5, i6, c1]
  · have c2 : d.hi < r := by omega
    simp [h, b1, i5, i6, c1, c2]
theorem k2t {r n : Int} (h : m[kE]? = some (.lst LL)) (hl : LL.length < 1000) (c : inD d r) (h7 : d.d7 < 4) : t_law_steps_2 (St6 d a b kE (.val (.int r)) (.val (.int n)) m) = some (.rt (.lst [.ref kE, .tup [.str "answer", .int (ans d a b n r)]]), St6 d a b kE (.val (.int r)) (.val (.int n)) (m.set kE (.lst (LL ++ [.tup [.str "row", .int 20]])))) := by
  have i5 := ix5 d
  have i6 := ix6 d
  have i7 := ix7 d
  have hx := ans_ix d h7 a b n r
  have b1 : LL.length < 1000000 := by omega
  unfold St6
  generalize I (dsI d) = DS at *
  generalize ans d a b n r = AN at *
  unfold t_law_steps_2 t_law_steps_1
  unfold inD at c
  have c1 : ¬ r < d.lo := by omega
  have c2 : ¬ d.hi < r := by omega
  simp [h, b1, i5, i6, i7, c1, c2, hx]
end
theorem steps_ok (d : Dr) (h7 : d.d7 < 4) (a b : Int) (m : List Cell) : f_law_steps [.lst (I (dsI d)), .int a, .int b] m = some (.lst [.ref m.length, encO (some (lawE d a b).2)], m ++ [.lst ((lawE d a b).1.map encV)]) := by
  have h0 : (m ++ [Cell.lst ([Ev.row 15, .row 16].map encV)])[m.length]? = some (.lst ([Ev.row 15, .row 16].map encV)) := get_last
  have hs : ∀ x y : Cell, (m ++ [x]).set m.length y = m ++ [y] := fun x y => set_last
  unfold lawE
  by_cases c1 : inD d b
  · rw [if_neg (not_not_intro c1)]
    have h1 := cells_app h0 [Ev.row 17]
    have hf := first_ok (d := d) (v := a) h1 (by simp)
    rw [List.set_set, List.append_assoc] at hf
    have e17 : ([Ev.row 15, Ev.row 16] ++ [Ev.row 17]).map encV = [Ev.row 15, Ev.row 16].map encV ++ [.tup [.str "row", .int 17]] := by simp [encV]
    rw [e17] at hf
    have t11 := k11t (a := a) (x4 := .emp) (x5 := .emp) c1 h0 (by simp) hf
    rw [hs] at t11
    have hL1 := fstE_len d a
    have g1 : (m ++ [Cell.lst (([Ev.row 15, .row 16] ++ ([Ev.row 17] ++ fstE d a)).map encV)])[m.length]? = some (.lst (([Ev.row 15, .row 16] ++ ([Ev.row 17] ++ fstE d a)).map encV)) := get_last
    obtain ⟨A, hA⟩ : ∃ A, A = [Ev.row 15, Ev.row 16] ++ ([Ev.row 17] ++ fstE d a) := ⟨_, rfl⟩
    rw [← hA] at g1 t11
    have hlA : A.length ≤ 8 := by rw [hA]; simp; omega
    by_cases c2 : inD d (fstV d a)
    · rw [if_neg (not_not_intro c2)]
      have h2 := cells_app g1 [Ev.row 18]
      have hg := second_ok (d := d) (v := fstV d a) h2 (by simp; omega)
      rw [List.set_set, List.append_assoc] at hg
      have e18 : (A ++ [Ev.row 18]).map encV = A.map encV ++ [.tup [.str "row", .int 18]] := by simp [encV]
      rw [e18] at hg
      have hL2 := sndE_len d (fstV d a)
      cases hsv : sndV d (fstV d a) with
      | none =>
        rw [hsv] at hg
        have t8 := k8n (a := a) (b := b) (x5 := .emp) c2 g1 (by simp; omega) hg
        rw [hs] at t8
        have r := steps_in (d := d) (a := a) (b := b) (m := m) (x4 := .emp) (x5 := .emp) (t11.trans t8)
        rw [r, hA]
        simp [encO, encV]
      | some n =>
        rw [hsv] at hg
        have t8 := k8s (a := a) (b := b) (x5 := .emp) c2 g1 (by simp; omega) (by simp; omega) hg
        rw [hs] at t8
        simp only
        have g2 : (m ++ [Cell.lst ((A ++ ([Ev.row 18] ++ sndE d (fstV d a))).map encV ++ [.tup [.str "row", .int 19]])])[m.length]? = some (.lst ((A ++ ([Ev.row 18] ++ sndE d (fstV d a))).map encV ++ [.tup [.str "row", .int 19]])) := get_last
        by_cases c3 : inD d (n - 1)
        · rw [if_neg (not_not_intro c3)]
          have t2 := k2t (a := a) (b := b) (n := n) g2 (by simp; omega) c3 h7
          rw [hs] at t2
          have r := steps_in (d := d) (a := a) (b := b) (m := m) (x4 := .emp) (x5 := .emp) ((t11.trans t8).trans t2)
          rw [r, hA]
          simp [encO, encV]
        · rw [if_pos c3]
          have t2 := k2f (a := a) (b := b) (n := n) g2 (by simp; omega) c3
          rw [hs] at t2
          have r := steps_in (d := d) (a := a) (b := b) (m := m) (x4 := .emp) (x5 := .emp) ((t11.trans t8).trans t2)
          rw [r, hA]
          simp [encO, encV]
    · rw [if_pos c2]
      have t8 := k8f (a := a) (b := b) (x5 := .emp) g1 (by simp; omega) c2
      rw [hs] at t8
      have r := steps_in (d := d) (a := a) (b := b) (m := m) (x4 := .emp) (x5 := .emp) (t11.trans t8)
      rw [r, hA]
      simp [encO, encV]
  · rw [if_pos c1]
    have t11 := k11f (a := a) (x4 := .emp) (x5 := .emp) h0 (by simp) c1
    rw [hs] at t11
    have r := steps_in (d := d) (a := a) (b := b) (m := m) (x4 := .emp) (x5 := .emp) t11
    rw [r]
    simp [encO, encV]
/-! told, base -/
theorem told_bad {ca : Nat → Addr} {m : List Cell} {k : Nat} {d : M.D} (h : f_run_program ca [.ref k, d, .tup []] m = some (.inr ⟨2, none⟩, m)) (hd : ∀ S0 : Ms, vw S0 d = d) : f_law_told ca [.ref k, d] m = some (.str "bad", m) ∧ f_law_base ca [.ref k, d] m = some (.bl true, m) := by
  constructor
  · unfold f_law_told b_law_told
    generalize f_run_program ca = fr at *
    simp [noX_ap, fnX_ap, h, hd]
  · unfold f_law_base b_law_base
    generalize f_run_program ca = fr at *
    simp [noX_ap, fnX_ap, h, hd, hRet, hAnd, hNot]
theorem told_fine {ca : Nat → Addr} {m m' : List Cell} {k : Nat} {d r : M.D} (h : f_run_program ca [.ref k, d, .tup []] m = some (.inl r, m')) (hd : ∀ S0 : Ms, vw S0 d = d) : f_law_told ca [.ref k, d] m = some (.str "fine", m') := by
  unfold f_law_told b_law_told
  generalize f_run_program ca = fr at *
  simp [noX_ap, fnX_ap, h, hd]
end Lk13



namespace Lk13
open PySem L2 M
/-! the law's steps (printed by mk13p.py) -/
theorem p15 {ca : Nat → Addr} {fT : FF} {tl : SF} {x0 x2 x3 x4 x5 x6 x7 x8 x9 x10 x11 x12 : M.Slot} {m m1 m2 m3 m4 m5 : List Cell} {v0 v1 v2 v3 v4 : Int} (e0 : fT [.ref 0, .int 40] m = some (.int v0, m1)) (e1 : fT [.ref 0, .int 7] m1 = some (.int v1, m2)) (e2 : fT [.ref 0, .int 5] m2 = some (.int v2, m3)) (e3 : fT [.ref 0, .int 40] m3 = some (.int v3, m4)) (e4 : fT [.ref 0, .int 20] m4 = some (.int v4, m5)) :
    (sSeq (sOwn 2 (cLst (aCons (eOp gSub (eFn 2 fT (aCons (eVar 1) (aCons (eC (.int 40)) aNil))) (eC (.int 15))) (aCons (eOp gSub (eFn 2 fT (aCons (eVar 1) (aCons (eC (.int 7)) aNil))) (eC (.int 3))) (aCons (eOp gSub (eFn 2 fT (aCons (eVar 1) (aCons (eC (.int 5)) aNil))) (eC (.int 2))) (aCons (eOp gSub (eFn 2 fT (aCons (eVar 1) (aCons (eC (.int 40)) aNil))) (eC (.int 15))) aNil)))))) (sSeq (sExpr (eApp 2 (eFn 2 fT (aCons (eVar 1) (aCons (eC (.int 20)) aNil))))) tl)) ⟨[x0, .val (.ref 0), x2, x3, x4, x5, x6, x7, x8, x9, x10, x11, x12], m⟩ = tl ⟨[x0, .val (.ref 0), .own (.lst [.int (v0 - 15), .int (v1 - 3), .int (v2 - 2), .int (v3 - 15), .int v4]), x3, x4, x5, x6, x7, x8, x9, x10, x11, x12], m5⟩ := by
  simp [e0, e1, e2, e3, e4]

theorem p13 {ca : Nat → Addr} {fT : FF} {tl : SF} {x0 x2 x3 x4 x5 x6 x7 x8 x9 x10 x11 x12 : M.Slot} {m m1 m2 : List Cell} {u v w : Int} (e0 : fT [.ref 0, .int 10] m = some (.int u, m1)) (e1 : fT [.ref 0, .int 3] m1 = some (.int v, m2)) (hx : atI [M.D.int (-30), .int (-5 + u), .int (-20)] v = some (.int w)) :
    (sSeq (sAsg (eOp gIx (eNew (cLst (aCons (eUn gNeg (eC (.int 30))) (aCons (eOp gAdd (eUn gNeg (eC (.int 5))) (eFn 2 fT (aCons (eVar 1) (aCons (eC (.int 10)) aNil)))) (aCons (eUn gNeg (eC (.int 20))) aNil))))) (eFn 2 fT (aCons (eVar 1) (aCons (eC (.int 3)) aNil)))) (gNm 3)) tl) ⟨[x0, .val (.ref 0), x2, x3, x4, x5, x6, x7, x8, x9, x10, x11, x12], m⟩ = tl ⟨[x0, .val (.ref 0), x2, .val (.int w), x4, x5, x6, x7, x8, x9, x10, x11, x12], m2⟩ := by
  simp [e0, e1, hx]

theorem p12 {ca : Nat → Addr} {fT : FF} {tl : SF} {x0 x4 x5 x6 x7 x8 x9 x10 x11 x12 : M.Slot} {DS : List M.D} {m m1 m2 m3 : List Cell} {u v w z q : Int} (hl : DS.length ≤ 100) (e0 : fT [.ref 0, .int 30] m = some (.int u, m1)) (e1 : fT [.ref 0, .int 3] m1 = some (.int v, m2)) (hx : atI [M.D.int 60, .int u, .int 5] v = some (.int z)) (e2 : fT [.ref 0, .int 4] m2 = some (.int q, m3)) :
    (sSeq (sAsg (eOpL gAdd 2 (eNew (cLst (aCons (eVar 3) (aCons (eOp gAdd (eVar 3) (eOp gIx (eNew (cLst (aCons (eC (.int 60)) (aCons (eFn 2 fT (aCons (eVar 1) (aCons (eC (.int 30)) aNil))) (aCons (eC (.int 5)) aNil))))) (eFn 2 fT (aCons (eVar 1) (aCons (eC (.int 3)) aNil))))) (aCons (eFn 2 fT (aCons (eVar 1) (aCons (eC (.int 4)) aNil))) aNil)))))) (gNm 2)) tl) ⟨[x0, .val (.ref 0), .own (.lst DS), .val (.int w), x4, x5, x6, x7, x8, x9, x10, x11, x12], m⟩ = tl ⟨[x0, .val (.ref 0), .val (.lst (DS ++ [.int w, .int (w + z), .int q])), .val (.int w), x4, x5, x6, x7, x8, x9, x10, x11, x12], m3⟩ := by
  have b : DS.length ≤ 999997 := by omega
  simp [e0, e1, hx, e2, b]

theorem p11 {ca : Nat → Addr} {fT fP : FF} {tl : SF} {x0 x4 x5 x6 x7 x8 x9 x10 x11 x12 : M.Slot} {DS : List M.D} {m m1 m2 m3 : List Cell} {w u v y kp : Int} {kq : Nat} (e0 : fP [.lst DS] m = some (.ref kq, m1)) (e1 : fT [.ref 0, .int 41] m1 = some (.int u, m2)) (e2 : fT [.ref 0, .int 13] m2 = some (.int v, m3)) (hy : y = if (if w + v - 2 < 20 then w + v - 2 else 20) > -20 then (if w + v - 2 < 20 then w + v - 2 else 20) else -20) :
    (sSeq (sAsg (eFn 1 fP (aCons (eVar 2) aNil)) (gNm 4)) (sSeq (sAsg (eOp gSub (eFn 2 fT (aCons (eVar 1) (aCons (eC (.int 41)) aNil))) (eC (.int 20))) (gNm 5)) (sSeq (sAsg (eCalls gMax2 (aCons (eUn gNeg (eC (.int 20))) (aCons (eCalls gMin2 (aCons (eC (.int 20)) (aCons (eCall gInt3 (eOp gSub (eOp gAdd (eVar 3) (eFn 2 fT (aCons (eVar 1) (aCons (eC (.int 13)) aNil)))) (eC (.int 2)))) aNil))) aNil))) (gNm 6)) tl))) ⟨[x0, .val (.ref 0), .val (.lst DS), .val (.int w), x4, x5, x6, x7, x8, x9, x10, x11, x12], m⟩ = tl ⟨[x0, .val (.ref 0), .val (.lst DS), .val (.int w), .val (.ref kq), .val (.int (u - 20)), .val (.int y), x7, x8, x9, x10, x11, x12], m3⟩ := by
  subst hy
  simp [e0, e1, e2]

theorem plp {ca : Nat → Addr} {fT fR fS fE : FF}  {x0 x3 x7 x8 x9 x10 x11 x12 : M.Slot} {DS LL : List M.D} {kp kr ke kw kE : Nat} {a b a2 b2 u v : Int} {O MT : M.D} {m m1 m2 m3 m4 : List Cell} (e1 : fR [.ref kp, .lst [.int a, .int b], .tup []] m = some (.ref kr, m1)) (e2 : fS [.lst DS, .int a, .int b] m1 = some (.lst [.ref kE, O], m2))
    (hr : m2[kr]? = some (.obj (ca 5) [("outcome", O), ("events", .ref ke), ("met", MT), ("watch", .ref kw)])) (h1 : m2[ke]? = some (.lst LL)) (h2 : m2[kE]? = some (.lst LL)) (e3 : fE [.tup LL, .tup LL] m2 = some (.bl true, m2)) (e4 : fE [O, O] m2 = some (.bl true, m2))
    (e5 : fT [.ref 0, .int 2] m2 = some (.int u, m3)) (hu : atI [M.D.int 20, .int (-20)] u = some (.int a2)) (e6 : fT [.ref 0, .int 2] m3 = some (.int v, m4)) (hv : atI [M.D.int 20, .int (-20)] v = some (.int b2)) :
    (sSeq (sAsg (eFnD 3 fR [.tup []] (aCons (eVar 4) (aCons (eNew (cLst (aCons (eVar 5) (aCons (eVar 6) aNil)))) aNil))) (gNm 8)) (sSeq (sAsg (eFn 3 fS (aCons (eVar 2) (aCons (eVar 5) (aCons (eVar 6) aNil)))) (gNm 9)) (sSeq (sIf (bOr (bNot (bTru (eIsiC "list" (eFld (ca 5) "events" (eVar 8))))) (bNot (bTru (eFn 2 fE (aCons (eCall gTuple (eFld (ca 5) "events" (eVar 8))) (aCons (eCall gTuple (eOpL gIx 9 (eC (.int 0)))) aNil)))))) (sRet (eC (.bl false))) sNil) (sSeq (sIf (bNot (bTru (eFn 2 fE (aCons (eFld (ca 5) "outcome" (eVar 8)) (aCons (eOpL gIx 9 (eC (.int 1))) aNil))))) (sRet (eC (.bl false))) sNil) (sSeq (sAsg (eOp gIx (eNew (cLst (aCons (eC (.int 20)) (aCons (eUn gNeg (eC (.int 20))) aNil)))) (eFn 2 fT (aCons (eVar 1) (aCons (eC (.int 2)) aNil)))) (gNm 5)) (sAsg (eOp gIx (eNew (cLst (aCons (eC (.int 20)) (aCons (eUn gNeg (eC (.int 20))) aNil)))) (eFn 2 fT (aCons (eVar 1) (aCons (eC (.int 2)) aNil)))) (gNm 6))))))) ⟨[x0, .val (.ref 0), .val (.lst DS), x3, .val (.ref kp), .val (.int a), .val (.int b), x7, x8, x9, x10, x11, x12], m⟩ = some (.nx, ⟨[x0, .val (.ref 0), .val (.lst DS), x3, .val (.ref kp), .val (.int a2), .val (.int b2), x7, .val (.ref kr), .val (.lst [.ref kE, O]), x10, x11, x12], m4⟩) := by
  have n1 : ¬ ("outcome" : Str) = "events" := by decide +kernel
  have w0 : atI [M.D.ref kE, O] 0 = some (.ref kE) := atI_0
  have w1 : atI [M.D.ref kE, O] 1 = some O := atI_1
  generalize [M.D.ref kE, O] = RO at *
  simp [e1, e2, hr, h1, h2, e3, e4, e5, hu, e6, hv, n1, w0, w1]

theorem pow30 : gPow (.int 10) (.int 30) = some (.int 1000000000000000000000000000000) := by rw [gPow_int, if_pos (by decide)]; rfl
def wrongs (a b : Int) : List M.D := [.lst [.int a], .lst [.int a, .int b, .int 0], .lst [], .lst [.int a, .int 21], .lst [.int (-21), .int b], .tup [.int 21, .int b], .lst [.int a, .int 1000000000000000000000000000000], .lst [.str "1", .int b], .lst [.int a, .non], .lst [.lst [.int a], .int b], .str "12", .dct [], .non]

theorem p7 {ca : Nat → Addr} {tl : SF} {x0 x1 x2 x3 x4 x7 x8 x9 x10 x11 x12 : M.Slot} {a b : Int} {m : List Cell}  :
    (sSeq (sAsg (eNew (cLst (aCons (eNew (cLst (aCons (eVar 5) aNil))) (aCons (eNew (cLst (aCons (eVar 5) (aCons (eVar 6) (aCons (eC (.int 0)) aNil))))) (aCons (eNew (cLst aNil)) (aCons (eNew (cLst (aCons (eVar 5) (aCons (eC (.int 21)) aNil)))) (aCons (eNew (cLst (aCons (eUn gNeg (eC (.int 21))) (aCons (eVar 6) aNil)))) (aCons (eTup (aCons (eC (.int 21)) (aCons (eVar 6) aNil))) (aCons (eNew (cLst (aCons (eVar 5) (aCons (eOp gPow (eC (.int 10)) (eC (.int 30))) aNil)))) (aCons (eNew (cLst (aCons (eC (.str "1")) (aCons (eVar 6) aNil)))) (aCons (eNew (cLst (aCons (eVar 5) (aCons (eC .non) aNil)))) (aCons (eNew (cLst (aCons (eNew (cLst (aCons (eVar 5) aNil))) (aCons (eVar 6) aNil)))) (aCons (eC (.str "12")) (aCons (eNew cDK) (aCons (eC .non) aNil))))))))))))))) (gNm 10)) tl) ⟨[x0, x1, x2, x3, x4, .val (.int a), .val (.int b), x7, x8, x9, x10, x11, x12], m⟩ = tl ⟨[x0, x1, x2, x3, x4, .val (.int a), .val (.int b), x7, x8, x9, .val (.lst (wrongs a b)), x11, x12], m⟩ := by
  unfold wrongs
  simp [pow30]

theorem plq {ca : Nat → Addr} {fO fB : FF}  {x0 x1 x2 x3 x5 x6 x7 x8 x9 x10 x11 : M.Slot} {kp : Nat} {d : M.D} {m : List Cell} (e1 : fO [.ref kp, d] m = some (.str "bad", m)) (e2 : fB [.ref kp, d] m = some (.bl true, m)) : (sIf (bOr (bOf (eOp gNe2 (eFn 2 fO (aCons (eVar 4) (aCons (eVar 12) aNil))) (eC (.str "bad")))) (bNot (bTru (eFn 2 fB (aCons (eVar 4) (aCons (eVar 12) aNil)))))) (sRet (eC (.bl false))) sNil) ⟨[x0, x1, x2, x3, .val (.ref kp), x5, x6, x7, x8, x9, x10, x11, .val d], m⟩ = some (.nx, ⟨[x0, x1, x2, x3, .val (.ref kp), x5, x6, x7, x8, x9, x10, x11, .val d], m⟩) := by
  simp [e1, e2]

theorem p6 {ca : Nat → Addr} {fT fO : FF} {lq : SF} {x0 x2 x3 x7 x8 x9 x11 x12 y12 : M.Slot} {kp : Nat} {a b v : Int} {WW : List M.D} {d1 d2 : M.D} {m m1 m2 m3 : List Cell} (e1 : fT [.ref 0, .int 13] m = some (.int v, m1)) (w1 : atI WW v = some d1) (w2 : atI WW ((v * 5 + 3) % 13) = some d2) (hv : -100 ≤ v ∧ v ≤ 100)
    (el : M.forM (gNm 12) lq [d1, d2] ⟨[x0, .val (.ref 0), x2, x3, .val (.ref kp), .val (.int a), .val (.int b), x7, x8, x9, .val (.lst WW), .val (.int v), x12], m1⟩ = some (.nx, ⟨[x0, .val (.ref 0), x2, x3, .val (.ref kp), .val (.int a), .val (.int b), x7, x8, x9, .val (.lst WW), .val (.int v), y12], m1⟩)) (o1 : fO [.ref kp, .tup [.int a, .int b]] m1 = some (.str "fine", m2)) (o2 : fO [.ref kp, .lst [.int a, .int b]] m2 = some (.str "fine", m3)) :
    ∃ S, (sSeq (sAsg (eFn 2 fT (aCons (eVar 1) (aCons (eC (.int 13)) aNil))) (gNm 11)) (sSeq (sFor (iSeq (eNew (cLst (aCons (eOpL gIx 10 (eVar 11)) (aCons (eOpL gIx 10 (eOp gMod (eCall gInt3 (eOp gAdd (eOp gMul3 (eVar 11) (eC (.int 5))) (eC (.int 3)))) (eC (.int 13)))) aNil))))) (gNm 12) lq) (sRet (eAnd (eOp gEq2 (eFn 2 fO (aCons (eVar 4) (aCons (eTup (aCons (eVar 5) (aCons (eVar 6) aNil))) aNil))) (eC (.str "fine"))) (eOp gEq2 (eFn 2 fO (aCons (eVar 4) (aCons (eNew (cLst (aCons (eVar 5) (aCons (eVar 6) aNil)))) aNil))) (eC (.str "fine"))))))) ⟨[x0, .val (.ref 0), x2, x3, .val (.ref kp), .val (.int a), .val (.int b), x7, x8, x9, .val (.lst WW), x11, x12], m⟩ = some (.rt (.bl true), S) := by
  have g : gMul3 (.int v) (.int 5) = some (.int (v * 5)) := by rw [gMul3_int, gMul_int, if_pos (.inl (by omega))]
  refine ⟨⟨[x0, .val (.ref 0), x2, x3, .val (.ref kp), .val (.int a), .val (.int b), x7, x8, x9, .val (.lst WW), .val (.int v), y12], m3⟩, ?_⟩
  simp [e1, w1, w2, g, el, o1, o2]
end Lk13



namespace Lk13
open PySem L2 M
/-! the law -/
theorem unkP (d : Dr) : unk (prP d).ins = [(-20, 20), (-20, 20)] := by simp [unk, prP]
theorem two_of {m m1 : List Cell} {A B : Cell} {r : List Cell} (hm : m = A :: B :: r) (k : Keep [] m m1) : ∃ r1, m1 = A :: B :: r1 := by
  subst hm
  have h0 : m1[0]? = some A := k.get (k := 0) rfl (by simp)
  have h1 : m1[1]? = some B := k.get (k := 1) rfl (by simp)
  match m1, h0, h1 with
  | x :: y :: r1, h0, h1 =>
    simp only [List.getElem?_cons_zero, List.getElem?_cons_succ, Option.some.injEq] at h0 h1
    exact ⟨r1, by rw [h0, h1]⟩
theorem lawE_good (d : Dr) (a b : Int) : (∀ e ∈ (lawE d a b).1, GoodV e) ∧ (lawE d a b).1.length ≤ 100 ∧ ∃ ds, encO (some (lawE d a b).2) = .tup ds := by
  have z1 : PyData.strOk "range" = true := by decide +kernel
  have z2 : PyData.strOk "check" = true := by decide +kernel
  have l1 := fstE_len d a
  have l2 := sndE_len d (fstV d a)
  have g1 : ∀ v, ∀ e ∈ fstE d v, GoodV e := fun v e he => by
    unfold fstE at he
    split at he <;> (simp at he; rcases he with rfl | rfl | rfl | rfl | rfl <;> trivial) <;> (rcases he with rfl | rfl | rfl | rfl <;> trivial)
  have g2 : ∀ v, ∀ e ∈ sndE d v, GoodV e := fun v e he => by
    unfold sndE at he
    split at he
    · simp only [List.mem_append, List.mem_cons, List.not_mem_nil, or_false] at he
      rcases he with (rfl | he) | rfl | rfl | rfl
      · trivial
      · exact g1 v e he
      · trivial
      · trivial
      · trivial
    · simp only [List.mem_append, List.mem_cons, List.not_mem_nil, or_false] at he
      rcases he with (rfl | he) | rfl | rfl | rfl
      · trivial
      · exact g1 v e he
      · trivial
      · trivial
      · exact z2
  refine ⟨?_, ?_, encO_some _⟩
  · intro e he
    unfold lawE at he
    split at he
    · simp only [List.mem_cons, List.not_mem_nil, or_false] at he
      rcases he with rfl | rfl | rfl
      · trivial
      · trivial
      · exact z1
    · split at he
      · simp only [List.mem_append, List.mem_cons, List.not_mem_nil, or_false] at he
        rcases he with ((rfl | rfl | rfl) | he) | rfl
        · trivial
        · trivial
        · trivial
        · exact g1 a e he
        · exact z1
      · split at he
        · simp only [List.mem_append, List.mem_cons, List.not_mem_nil, or_false] at he
          rcases he with (((rfl | rfl | rfl) | he) | rfl) | he
          · trivial
          · trivial
          · trivial
          · exact g1 a e he
          · trivial
          · exact g2 _ e he
        · split at he
          · simp only [List.mem_append, List.mem_cons, List.not_mem_nil, or_false] at he
            rcases he with ((((rfl | rfl | rfl) | he) | rfl) | he) | rfl | rfl
            · trivial
            · trivial
            · trivial
            · exact g1 a e he
            · trivial
            · exact g2 _ e he
            · trivial
            · exact z1
          · simp only [List.mem_append, List.mem_cons, List.not_mem_nil, or_false] at he
            rcases he with ((((rfl | rfl | rfl) | he) | rfl) | he) | rfl | rfl
            · trivial
            · trivial
            · trivial
            · exact g1 a e he
            · trivial
            · exact g2 _ e he
            · trivial
            · trivial
  · unfold lawE
    split
    · simp
    · split
      · simp; omega
      · split
        · simp; omega
        · split <;> (simp; omega)
theorem lawO_same (d : Dr) (a b : Int) (m : List Cell) : f_law_same 8 [encO (some (lawE d a b).2), encO (some (lawE d a b).2)] m = some (.bl true, m) := by
  have so : PyData.strOk "fault" = true ∧ PyData.strOk "answer" = true ∧ PyData.strOk "range" = true ∧ PyData.strOk "check" = true := by decide +kernel
  obtain ⟨z1, z2, z3, z4⟩ := so
  have flt : ∀ (r : Int) (k : Str), PyData.strOk k = true → f_law_same 8 [encO (some (.fault r k)), encO (some (.fault r k))] m = some (.bl true, m) := fun r k hk => by
    refine same_tup _ (by simp) _ _ fun d hd => ?_
    simp only [List.mem_cons, List.not_mem_nil, or_false] at hd
    rcases hd with rfl | rfl | rfl
    · exact same_str z1 _ _
    · exact same_int _ _ _
    · exact same_str hk _ _
  have anw : ∀ v : Int, f_law_same 8 [encO (some (.answer v)), encO (some (.answer v))] m = some (.bl true, m) := fun v => by
    refine same_tup _ (by simp) _ _ fun d hd => ?_
    simp only [List.mem_cons, List.not_mem_nil, or_false] at hd
    rcases hd with rfl | rfl
    · exact same_str z2 _ _
    · exact same_int _ _ _
  unfold lawE
  split
  · exact flt _ _ z3
  · split
    · exact flt _ _ z3
    · split
      · exact flt _ _ z4
      · split
        · exact flt _ _ z3
        · exact anw _
theorem same_ev (e : Ev) (he : GoodV e) (k : Nat) (m : List Cell) : f_law_same (k + 2) [encV e, encV e] m = some (.bl true, m) := by
  have so : PyData.strOk "row" = true ∧ PyData.strOk "yes" = true ∧ PyData.strOk "no" = true ∧ PyData.strOk "turn" = true ∧ PyData.strOk "fault" = true := by decide +kernel
  obtain ⟨z1, z2, z3, z4, z5⟩ := so
  have two : ∀ (t : Str) (r : Int), PyData.strOk t = true → f_law_same (k + 2) [.tup [.str t, .int r], .tup [.str t, .int r]] m = some (.bl true, m) := fun t r ht => by
    refine same_tup _ (by simp) _ _ fun d hd => ?_
    simp only [List.mem_cons, List.not_mem_nil, or_false] at hd
    rcases hd with rfl | rfl
    · exact same_str ht _ _
    · exact same_int _ _ _
  cases e with
  | row r => exact two _ _ z1
  | yes r => exact two _ _ z2
  | no r => exact two _ _ z3
  | turn r n =>
    refine same_tup _ (by simp) _ _ fun d hd => ?_
    simp only [List.mem_cons, List.not_mem_nil, or_false] at hd
    rcases hd with rfl | rfl | rfl
    · exact same_str z4 _ _
    · exact same_int _ _ _
    · exact same_int _ _ _
  | fault r n =>
    refine same_tup _ (by simp) _ _ fun d hd => ?_
    simp only [List.mem_cons, List.not_mem_nil, or_false] at hd
    rcases hd with rfl | rfl | rfl
    · exact same_str z5 _ _
    · exact same_int _ _ _
    · exact same_str he _ _
theorem pm_ix (u : Int) (h0 : 0 ≤ u) (h2 : u < 2) : ∃ a : Int, atI [M.D.int 20, .int (-20)] u = some (.int a) ∧ (-20 ≤ a ∧ a ≤ 20) := by
  have : u = 0 ∨ u = 1 := by omega
  rcases this with rfl | rfl
  · exact ⟨20, atI_0, by omega⟩
  · exact ⟨-20, atI_1, by omega⟩
theorem run_at (ca : Nat → Addr) (t : Bool) (d : Dr) {a b : Int} (ha : -20 ≤ a ∧ a ≤ 20) (hb : -20 ≤ b ∧ b ≤ 20) {m r : List Cell} {H : Cell} (hm : m = H :: objP ca d :: r) : ∃ m1 LL W MT, f_run_program ca [.ref 1, sq t (I [a, b]), .tup []] m = some (.inl (.ref m.length), m1) ∧ (∃ r1, m1 = H :: objP ca d :: r1) ∧ m1[m.length]? = some (.obj (ca 5) [("outcome", encO (some (lawE d a b).2)), ("events", .ref (m.length + 1)), ("met", MT), ("watch", W)]) ∧ m1[m.length + 1]? = some (.lst LL) ∧ LL = (lawE d a b).1.map encV ∧ W = .ref (m.length + 2) := by
  obtain ⟨V, G, hr⟩ := prog_run (d := d) ha hb
  have hp : PrAt ca m 1 (prP d) := by rw [hm]; rfl
  obtain ⟨hg, hl, _⟩ := lawE_good d a b
  obtain ⟨m1, e, R, K⟩ := run_ok (pl := []) t hp hr (by show (lawE d a b).1.length ≤ 90000; omega) (by rw [unkP]; simp) (by simp [prP]) (fun a h => by cases h) (by simp)
  exact ⟨m1, _, _, _, e, two_of hm K, R.r, R.e, rfl, rfl⟩
theorem loop_step (ca : Nat → Addr) (d : Dr) (h7 : d.d7 < 4) (ds : List Int) {a b p : Int} (hp : 0 ≤ p) (ha : -20 ≤ a ∧ a ≤ 20) (hb : -20 ≤ b ∧ b ≤ 20) {r : List Cell} {x0 x3 x7 x8 x9 x10 x11 x12 : M.Slot} : ∃ (a2 b2 p2 : Int) (r2 : List Cell) (y8 y9 : M.Slot), 0 ≤ p2 ∧ (-20 ≤ a2 ∧ a2 ≤ 20) ∧ (-20 ≤ b2 ∧ b2 ≤ 20) ∧
    l_law_1 ca ⟨[x0, .val (.ref 0), .val (.lst (I (dsI d))), x3, .val (.ref 1), .val (.int a), .val (.int b), x7, x8, x9, x10, x11, x12], Hd ds p :: objP ca d :: r⟩ = some (.nx, ⟨[x0, .val (.ref 0), .val (.lst (I (dsI d))), x3, .val (.ref 1), .val (.int a2), .val (.int b2), x7, y8, y9, x10, x11, x12], Hd ds p2 :: objP ca d :: r2⟩) := by
  obtain ⟨m1, LL, W, MT, e1, ⟨r1, hm1⟩, hr, he, hLL, hW⟩ := run_at ca false d ha hb (m := Hd ds p :: objP ca d :: r) rfl
  generalize hkr : (Hd ds p :: objP ca d :: r).length = kr at *
  have hk1 : kr < m1.length := (List.getElem?_eq_some_iff.mp hr).1
  have hk2 : kr + 1 < m1.length := (List.getElem?_eq_some_iff.mp he).1
  have e2 := steps_ok d h7 a b m1
  obtain ⟨hg, hl, _⟩ := lawE_good d a b
  rw [← hLL] at e2
  have hm2 : m1 ++ [Cell.lst LL] = Hd ds p :: (objP ca d :: r1 ++ [Cell.lst LL]) := by rw [hm1]; rfl
  obtain ⟨u, u0, u2, e5⟩ := take_ok ds p hp 2 (by omega) (by omega) (objP ca d :: r1 ++ [Cell.lst LL])
  obtain ⟨v, v0, v2, e6⟩ := take_ok ds (p + 1) (by omega) 2 (by omega) (by omega) (objP ca d :: r1 ++ [Cell.lst LL])
  obtain ⟨a2, hu, ra⟩ := pm_ix u u0 u2
  obtain ⟨b2, hv, rb⟩ := pm_ix v v0 v2
  have hs : f_law_same 8 [.tup LL, .tup LL] (m1 ++ [Cell.lst LL]) = some (.bl true, m1 ++ [Cell.lst LL]) := by
    rw [hLL]
    refine same_tup _ (by simp; omega) 7 _ fun q hq => ?_
    obtain ⟨e, h1, rfl⟩ := List.mem_map.mp hq
    exact same_ev e (hg e h1) 5 _
  have ho := lawO_same d a b (m1 ++ [Cell.lst LL])
  have en : (noX (f_run_program ca)) [.ref 1, .lst [.int a, .int b], .tup []] (Hd ds p :: objP ca d :: r) = some (.ref kr, m1) := by
    have e1' : f_run_program ca [.ref 1, .lst [.int a, .int b], .tup []] (Hd ds p :: objP ca d :: r) = some (.inl (.ref kr), m1) := e1
    rw [noX_ap, e1']; rfl
  subst hW
  rw [hm2] at hs ho e2
  have hr' : (Hd ds p :: (objP ca d :: r1 ++ [Cell.lst LL]))[kr]? = some (.obj (ca 5) [("outcome", encO (some (lawE d a b).2)), ("events", .ref (kr + 1)), ("met", MT), ("watch", .ref (kr + 2))]) := by
    rw [← hm2, List.getElem?_append_left hk1]; exact hr
  have he' : (Hd ds p :: (objP ca d :: r1 ++ [Cell.lst LL]))[kr + 1]? = some (.lst LL) := by
    rw [← hm2, List.getElem?_append_left hk2]; exact he
  have hE' : (Hd ds p :: (objP ca d :: r1 ++ [Cell.lst LL]))[m1.length]? = some (.lst LL) := by
    rw [← hm2]; exact get_last
  have st := plp (ca := ca) (fR := noX (f_run_program ca)) (fS := f_law_steps) (fE := f_law_same 8) (fT := f_law_take) (x0 := x0) (x3 := x3) (x7 := x7) (x8 := x8) (x9 := x9) (x10 := x10) (x11 := x11) (x12 := x12) en e2 hr' he' hE' hs ho e5 hu e6 hv
  exact ⟨a2, b2, p + 1 + 1, _, _, _, by omega, ra, rb, st⟩
theorem loop_two (ca : Nat → Addr) (d : Dr) (h7 : d.d7 < 4) (ds : List Int) {a b p : Int} (hp : 0 ≤ p) (ha : -20 ≤ a ∧ a ≤ 20) (hb : -20 ≤ b ∧ b ≤ 20) {r : List Cell} {x0 x3 x7 x8 x9 x10 x11 x12 : M.Slot} : ∃ (a2 b2 p2 : Int) (r2 : List Cell) (y7 y8 y9 : M.Slot), 0 ≤ p2 ∧ (-20 ≤ a2 ∧ a2 ≤ 20) ∧ (-20 ≤ b2 ∧ b2 ≤ 20) ∧
    t_law_8 ca ⟨[x0, .val (.ref 0), .val (.lst (I (dsI d))), x3, .val (.ref 1), .val (.int a), .val (.int b), x7, x8, x9, x10, x11, x12], Hd ds p :: objP ca d :: r⟩ = t_law_7 ca ⟨[x0, .val (.ref 0), .val (.lst (I (dsI d))), x3, .val (.ref 1), .val (.int a2), .val (.int b2), y7, y8, y9, x10, x11, x12], Hd ds p2 :: objP ca d :: r2⟩ := by
  obtain ⟨a1, b1, p1, r1, y8, y9, hp1, ra1, rb1, s1⟩ := loop_step ca d h7 ds hp ha hb (r := r) (x0 := x0) (x3 := x3) (x7 := .val (.int 0)) (x8 := x8) (x9 := x9) (x10 := x10) (x11 := x11) (x12 := x12)
  obtain ⟨a2, b2, p2, r2, z8, z9, hp2, ra2, rb2, s2⟩ := loop_step ca d h7 ds hp1 ra1 rb1 (r := r1) (x0 := x0) (x3 := x3) (x7 := .val (.int 1)) (x8 := y8) (x9 := y9) (x10 := x10) (x11 := x11) (x12 := x12)
  refine ⟨a2, b2, p2, r2, .val (.int 1), z8, z9, hp2, ra2, rb2, ?_⟩
  have hrg := fun S => rng1_ok (z := 2) (by omega) (by omega) (S := S) (f := eC (.int 2)) rfl
  have hr2 : rngD 0 (2 : Int).toNat = [.int 0, .int 1] := rfl
  simp only [hr2] at hrg
  unfold t_law_8
  generalize t_law_7 ca = tl
  generalize l_law_1 ca = lp at *
  generalize iRg1 (eC (.int 2)) = it at *
  revert tl; refine opq ?_; intro tl
  simp [hrg, forM_cons, s1, s2]
/-! wrong inputs -/
theorem wrong_ok (ca : Nat → Addr) (d : Dr) (a b : Int) {m r : List Cell} {H : Cell} (hm : m = H :: objP ca d :: r) (j : Int) (h0 : 0 ≤ j) (h13 : j < 13) : ∃ w, atI (wrongs a b) j = some w ∧ f_is_input ca [.ref 1, w] m = some (.bl false, m) ∧ ∀ S0 : Ms, vw S0 w = w := by
  have h1 : m[1]? = some (.obj (ca 3) [("inputs", .tup ((prP d).ins.map encI)), ("functions", .tup ((prP d).fns.map encF)), ("body", .tup (encB (prP d).body))]) := by rw [hm]; rfl
  have hin : lkD "inputs" [("inputs", M.D.tup ((prP d).ins.map encI)), ("functions", .tup ((prP d).fns.map encF)), ("body", .tup (encB (prP d).body))] = some (.tup ((prP d).ins.map encI)) := by simp
  have hu : (unk (prP d).ins).length ≤ 1000 := by rw [unkP]; simp
  have L : ∀ (t : Bool) (ws : List M.D), (∀ w ∈ ws, Kd w) → (decide (ws.length = 2) && okR ws [(-20, 20), (-20, 20)]) = false → f_is_input ca [.ref 1, sq t ws] m = some (.bl false, m) := fun t ws hk hf => by
    have := isin_all (t := t) h1 hin hu hk
    rw [unkP] at this
    rw [this]
    rw [show ([(-20, 20), (-20, 20)] : List (Int × Int)).length = 2 from rfl, hf]
  have N := fun w hk => isin_not (d := w) h1 hin hu hk
  have : j = 0 ∨ j = 1 ∨ j = 2 ∨ j = 3 ∨ j = 4 ∨ j = 5 ∨ j = 6 ∨ j = 7 ∨ j = 8 ∨ j = 9 ∨ j = 10 ∨ j = 11 ∨ j = 12 := by omega
  have at' : ∀ (k : Nat) (w : M.D), (wrongs a b)[k]? = some w → k < 13 → atI (wrongs a b) (k : Int) = some w := fun k w h hk => by
    rw [atI_pos (Int.natCast_nonneg _) (by simp [wrongs]; omega)]; simpa using h
  have kd2 : ∀ x y : M.D, Kd x → Kd y → ∀ w ∈ [x, y], Kd w := fun x y hx hy w hw => by simp at hw; rcases hw with rfl | rfl <;> assumption
  rcases this with rfl | rfl | rfl | rfl | rfl | rfl | rfl | rfl | rfl | rfl | rfl | rfl | rfl
  · exact ⟨_, at' 0 _ rfl (by omega), L false _ (by simp [Kd]) (by simp), fun S0 => rfl⟩
  · exact ⟨_, at' 1 _ rfl (by omega), L false _ (by simp [Kd]) (by simp), fun S0 => rfl⟩
  · exact ⟨_, at' 2 _ rfl (by omega), L false _ (by simp) (by simp), fun S0 => rfl⟩
  · exact ⟨_, at' 3 _ rfl (by omega), L false _ (kd2 _ _ trivial trivial) (by simp [okR, okE]), fun S0 => rfl⟩
  · exact ⟨_, at' 4 _ rfl (by omega), L false _ (kd2 _ _ trivial trivial) (by simp [okR, okE]), fun S0 => rfl⟩
  · exact ⟨_, at' 5 _ rfl (by omega), L true _ (kd2 _ _ trivial trivial) (by simp [okR, okE]), fun S0 => rfl⟩
  · exact ⟨_, at' 6 _ rfl (by omega), L false _ (kd2 _ _ trivial trivial) (by simp [okR, okE]), fun S0 => rfl⟩
  · exact ⟨_, at' 7 _ rfl (by omega), L false _ (kd2 _ _ trivial trivial) (by simp [okR, okE]), fun S0 => rfl⟩
  · exact ⟨_, at' 8 _ rfl (by omega), L false _ (kd2 _ _ trivial trivial) (by simp [okR, okE]), fun S0 => rfl⟩
  · exact ⟨_, at' 9 _ rfl (by omega), L false _ (kd2 _ _ trivial trivial) (by simp [okR, okE]), fun S0 => rfl⟩
  · exact ⟨_, at' 10 _ rfl (by omega), N _ (.inr (.inl ⟨_, rfl⟩)), fun S0 => rfl⟩
  · exact ⟨_, at' 11 _ rfl (by omega), N _ (.inr (.inr rfl)), fun S0 => rfl⟩
  · exact ⟨_, at' 12 _ rfl (by omega), N _ (.inl rfl), fun S0 => rfl⟩
theorem last_ok (ca : Nat → Addr) (d : Dr) (ds : List Int) {a b p : Int} (hp : 0 ≤ p) (ha : -20 ≤ a ∧ a ≤ 20) (hb : -20 ≤ b ∧ b ≤ 20) {r : List Cell} {x0 x2 x3 x7 x8 x9 x10 x11 x12 : M.Slot} : ∃ S, t_law_7 ca ⟨[x0, .val (.ref 0), x2, x3, .val (.ref 1), .val (.int a), .val (.int b), x7, x8, x9, x10, x11, x12], Hd ds p :: objP ca d :: r⟩ = some (.rt (.bl true), S) := by
  have e7 := p7 (ca := ca) (tl := t_law_6 ca) (x0 := x0) (x1 := .val (.ref 0)) (x2 := x2) (x3 := x3) (x4 := .val (.ref 1)) (x7 := x7) (x8 := x8) (x9 := x9) (x10 := x10) (x11 := x11) (x12 := x12) (a := a) (b := b) (m := Hd ds p :: objP ca d :: r)
  have e7' : t_law_7 ca _ = _ := e7
  rw [e7']
  obtain ⟨v, v0, v13, e1⟩ := take_ok ds p hp 13 (by omega) (by omega) (objP ca d :: r)
  generalize hm : Hd ds (p + 1) :: objP ca d :: r = m at *
  obtain ⟨w1, q1, f1, k1⟩ := wrong_ok ca d a b hm.symm v v0 v13
  obtain ⟨w2, q2, f2, k2⟩ := wrong_ok ca d a b hm.symm ((v * 5 + 3) % 13) (Int.emod_nonneg _ (by omega)) (Int.emod_lt_of_pos _ (by omega))
  obtain ⟨t1, b1⟩ := told_bad (run_bad (PL := .tup []) f1 k1) k1
  obtain ⟨t2, b2⟩ := told_bad (run_bad (PL := .tup []) f2 k2) k2
  have s1 := plq (ca := ca) (fO := f_law_told ca) (fB := f_law_base ca) (x0 := x0) (x1 := .val (.ref 0)) (x2 := x2) (x3 := x3) (x5 := .val (.int a)) (x6 := .val (.int b)) (x7 := x7) (x8 := x8) (x9 := x9) (x10 := .val (.lst (wrongs a b))) (x11 := .val (.int v)) t1 b1
  have s2 := plq (ca := ca) (fO := f_law_told ca) (fB := f_law_base ca) (x0 := x0) (x1 := .val (.ref 0)) (x2 := x2) (x3 := x3) (x5 := .val (.int a)) (x6 := .val (.int b)) (x7 := x7) (x8 := x8) (x9 := x9) (x10 := .val (.lst (wrongs a b))) (x11 := .val (.int v)) t2 b2
  have el : M.forM (gNm 12) (l_law_2 ca) [w1, w2] ⟨[x0, .val (.ref 0), x2, x3, .val (.ref 1), .val (.int a), .val (.int b), x7, x8, x9, .val (.lst (wrongs a b)), .val (.int v), x12], m⟩ = some (.nx, ⟨[x0, .val (.ref 0), x2, x3, .val (.ref 1), .val (.int a), .val (.int b), x7, x8, x9, .val (.lst (wrongs a b)), .val (.int v), .val w2], m⟩) := by
    have s1' : l_law_2 ca ⟨[x0, .val (.ref 0), x2, x3, .val (.ref 1), .val (.int a), .val (.int b), x7, x8, x9, .val (.lst (wrongs a b)), .val (.int v), .val w1], m⟩ = _ := s1
    have s2' : l_law_2 ca ⟨[x0, .val (.ref 0), x2, x3, .val (.ref 1), .val (.int a), .val (.int b), x7, x8, x9, .val (.lst (wrongs a b)), .val (.int v), .val w2], m⟩ = _ := s2
    generalize l_law_2 ca = lq at *
    simp [forM_cons, s1', s2']
  obtain ⟨m2, _, _, _, g1, ⟨r2, hm2⟩, _⟩ := run_at ca true d ha hb hm.symm
  obtain ⟨m3, _, _, _, g2, ⟨r3, hm3⟩, _⟩ := run_at ca false d ha hb hm2
  have o1 := told_fine (d := sq true (I [a, b])) g1 (fun S0 => rfl)
  have o2 := told_fine (d := sq false (I [a, b])) g2 (fun S0 => rfl)
  exact p6 (ca := ca) (fT := f_law_take) (fO := f_law_told ca) (lq := l_law_2 ca) (x0 := x0) (x2 := x2) (x3 := x3) (x7 := x7) (x8 := x8) (x9 := x9) (x11 := x11) (x12 := x12) e1 q1 q2 (by omega) el o1 o2
theorem three_ix (x y z v : Int) (h0 : 0 ≤ v) (h3 : v < 3) : ∃ w : Int, atI [M.D.int x, .int y, .int z] v = some (.int w) := by
  have : v = 0 ∨ v = 1 ∨ v = 2 := by omega
  rcases this with rfl | rfl | rfl
  · exact ⟨x, atI_0⟩
  · exact ⟨y, atI_1⟩
  · exact ⟨z, atI_2⟩
theorem law_true (ca : Nat → Addr) (ns : List Int) (hl : ns.length ≤ 63) (hb : ∀ z ∈ ns, Builtin.Int.intBits z ≤ 1048576) : ∃ m, f_law ca [.sc (ns.map M.D.int)] [] = some (.bl true, m) := by
  obtain ⟨ds, hdr⟩ := draws_ok ns 60 (by omega) (by omega) []
  obtain ⟨v0, _, _, e0⟩ := take_ok ds 0 (by omega) 40 (by omega) (by omega) []
  obtain ⟨v1, _, _, e1⟩ := take_ok ds (0 + 1) (by omega) 7 (by omega) (by omega) []
  obtain ⟨v2, _, _, e2⟩ := take_ok ds (0 + 1 + 1) (by omega) 5 (by omega) (by omega) []
  obtain ⟨v3, _, _, e3⟩ := take_ok ds (0 + 1 + 1 + 1) (by omega) 40 (by omega) (by omega) []
  obtain ⟨v4, _, _, e4⟩ := take_ok ds (0 + 1 + 1 + 1 + 1) (by omega) 20 (by omega) (by omega) []
  have s15 := p15 (ca := ca) (fT := f_law_take) (tl := t_law_13 ca) (x0 := .val (.sc (I ns))) (x2 := .emp) (x3 := .emp) (x4 := .emp) (x5 := .emp) (x6 := .emp) (x7 := .emp) (x8 := .emp) (x9 := .emp) (x10 := .emp) (x11 := .emp) (x12 := .emp) e0 e1 e2 e3 e4
  generalize hp5 : (0 + 1 + 1 + 1 + 1 + 1 : Int) = p5 at *
  have hp5' : 0 ≤ p5 := by omega
  obtain ⟨u, _, _, f0⟩ := take_ok ds p5 hp5' 10 (by omega) (by omega) []
  obtain ⟨v, hv0, hv3, f1⟩ := take_ok ds (p5 + 1) (by omega) 3 (by omega) (by omega) []
  obtain ⟨w, hw⟩ := three_ix (-30) (-5 + u) (-20) v hv0 hv3
  have s13 := p13 (ca := ca) (fT := f_law_take) (tl := t_law_12 ca) (x0 := .val (.sc (I ns))) (x2 := .own (.lst [.int (v0 - 15), .int (v1 - 3), .int (v2 - 2), .int (v3 - 15), .int v4])) (x3 := .emp) (x4 := .emp) (x5 := .emp) (x6 := .emp) (x7 := .emp) (x8 := .emp) (x9 := .emp) (x10 := .emp) (x11 := .emp) (x12 := .emp) f0 f1 hw
  obtain ⟨u', _, _, g0⟩ := take_ok ds (p5 + 1 + 1) (by omega) 30 (by omega) (by omega) []
  obtain ⟨v', hv0', hv3', g1⟩ := take_ok ds (p5 + 1 + 1 + 1) (by omega) 3 (by omega) (by omega) []
  obtain ⟨z, hz⟩ := three_ix 60 u' 5 v' hv0' hv3'
  obtain ⟨q, hq0, hq4, g2⟩ := take_ok ds (p5 + 1 + 1 + 1 + 1) (by omega) 4 (by omega) (by omega) []
  have s12 := p12 (ca := ca) (fT := f_law_take) (tl := t_law_11 ca) (x0 := .val (.sc (I ns))) (x4 := .emp) (x5 := .emp) (x6 := .emp) (x7 := .emp) (x8 := .emp) (x9 := .emp) (x10 := .emp) (x11 := .emp) (x12 := .emp) (DS := [.int (v0 - 15), .int (v1 - 3), .int (v2 - 2), .int (v3 - 15), .int v4]) (w := w) (by simp) g0 g1 hz g2
  obtain ⟨d, hd, h7⟩ : ∃ d : Dr, ([.int (v0 - 15), .int (v1 - 3), .int (v2 - 2), .int (v3 - 15), .int v4] : List M.D) ++ [.int w, .int (w + z), .int q] = I (dsI d) ∧ d.d7 < 4 := by
    refine ⟨⟨v0 - 15, v1 - 3, v2 - 2, v3 - 15, v4, w, w + z, q.toNat⟩, ?_, by show q.toNat < 4; omega⟩
    have : ((q.toNat : Nat) : Int) = q := by omega
    simp [dsI, I, this]
  rw [hd] at s12
  have hpr := program_ok ca d h7 [Hd ds (p5 + 1 + 1 + 1 + 1 + 1)]
  obtain ⟨u2, hu0, hu41, k1⟩ := take_ok ds (p5 + 1 + 1 + 1 + 1 + 1) (by omega) 41 (by omega) (by omega) [objP ca d]
  obtain ⟨v5, _, _, k2⟩ := take_ok ds (p5 + 1 + 1 + 1 + 1 + 1 + 1) (by omega) 13 (by omega) (by omega) [objP ca d]
  obtain ⟨y, hy⟩ : ∃ y : Int, y = if (if w + v5 - 2 < 20 then w + v5 - 2 else 20) > -20 then (if w + v5 - 2 < 20 then w + v5 - 2 else 20) else -20 := ⟨_, rfl⟩
  have hyr : -20 ≤ y ∧ y ≤ 20 := by rw [hy]; split <;> split <;> omega
  have s11 := p11 (ca := ca) (fP := f_law_program ca) (fT := f_law_take) (tl := t_law_8 ca) (kp := 0) (x0 := .val (.sc (I ns))) (x4 := .emp) (x5 := .emp) (x6 := .emp) (x7 := .emp) (x8 := .emp) (x9 := .emp) (x10 := .emp) (x11 := .emp) (x12 := .emp) (w := w) hpr k1 k2 hy
  obtain ⟨a2, b2, p6', r2, y7, y8, y9, hp6, ra, rb, s8⟩ := loop_two ca d h7 ds (a := u2 - 20) (b := y) (p := p5 + 1 + 1 + 1 + 1 + 1 + 1 + 1) (by omega) (by omega) hyr (r := []) (x0 := .val (.sc (I ns))) (x3 := .val (.int w)) (x7 := .emp) (x8 := .emp) (x9 := .emp) (x10 := .emp) (x11 := .emp) (x12 := .emp)
  obtain ⟨S, s7⟩ := last_ok ca d ds hp6 ra rb (r := r2) (x0 := .val (.sc (I ns))) (x2 := .val (.lst (I (dsI d)))) (x3 := .val (.int w)) (x7 := y7) (x8 := y8) (x9 := y9) (x10 := .emp) (x11 := .emp) (x12 := .emp)
  have chain : t_law_15 ca ⟨[.val (.sc (I ns)), .val (.ref 0), .emp, .emp, .emp, .emp, .emp, .emp, .emp, .emp, .emp, .emp, .emp], [Hd ds 0]⟩ = some (.rt (.bl true), S) := s15.trans (s13.trans (s12.trans (s11.trans (s8.trans s7))))
  refine ⟨S.m, ?_⟩
  have hdr' : f_law_draws [.sc (I ns), .int 60] [] = some (.lst (I ds), []) := hdr
  have hH : Cell.lst [.lst (I ds), .int 0] = Hd ds 0 := rfl
  rw [show ns.map M.D.int = I ns from rfl]
  unfold f_law b_law
  clear s15 s13 s12 s11 s8 s7
  generalize t_law_15 ca = tl at chain ⊢
  generalize f_law_draws = fd at *
  revert tl
  refine opq ?_
  intro tl chain
  simp only [fnM_ap]
  simp [hdr', hH, chain]
end Lk13

namespace Lk13
end Lk13

/-! the walk of k13, printed by gen.py -/
namespace Lk13
open PySem PySem.Spec L2 M
def top (i : Nat) : Stmt := PySem.Challenge.pw_wayorring_k13_functions_ranges_and_input.main.body.getD i (.Pass ⟨0, 0, 0, 0⟩)
structure Txt (K : PySem.W.Frag) (mg : Str → Option Value) (ca : Nat → Addr) : Prop where
  b_ValueError : mg "ValueError" = none
  b_abs : mg "abs" = none
  b_bool : mg "bool" = none
  b_int : mg "int" = none
  b_isinstance : mg "isinstance" = none
  b_len : mg "len" = none
  b_list : mg "list" = none
  b_max : mg "max" = none
  b_min : mg "min" = none
  b_range : mg "range" = none
  b_str : mg "str" = none
  b_tuple : mg "tuple" = none
  b_zip : mg "zip" = none
  k3 : Cls K (ca 3)
  m3 : mg "Program" = some (.ref (ca 3))
  n3_inputs : NoAttr K (ca 3) "inputs"
  n3_functions : NoAttr K (ca 3) "functions"
  n3_body : NoAttr K (ca 3) "body"
  k4 : Cls K (ca 4)
  m4 : mg "Watch" = some (.ref (ca 4))
  n4_place : NoAttr K (ca 4) "place"
  n4_progress : NoAttr K (ca 4) "progress"
  k5 : Cls K (ca 5)
  m5 : mg "Run" = some (.ref (ca 5))
  n5_outcome : NoAttr K (ca 5) "outcome"
  n5_events : NoAttr K (ca 5) "events"
  n5_met : NoAttr K (ca 5) "met"
  n5_watch : NoAttr K (ca 5) "watch"
  k6 : Cls K (ca 6)
  m6 : mg "Frame" = some (.ref (ca 6))
  n6_variables : NoAttr K (ca 6) "variables"
  n6_ranges : NoAttr K (ca 6) "ranges"
  m0 : mg "WayError" = some (.ref (ca 0))
  m1 : mg "BadLine" = some (.ref (ca 1))
  m2 : mg "BadInput" = some (.ref (ca 2))
  xt2 : Xtxt K mg ca 2 "BadInput"
  xm2_2 : PySem.W.exmOne K (.ref (ca 2)) (.ref (ca 2)) = some true
  xm2_0 : PySem.W.exmOne K (.ref (ca 2)) (.ref (ca 0)) = some true
  xh2 : ExcC K (ca 2)
  ki2_2 : PySem.W.kitOne K (.ref (ca 2)) (.ref (ca 2)) = some true
  ki2_1 : PySem.W.kitOne K (.ref (ca 2)) (.ref (ca 1)) = some false
  kb2_ValueError : PySem.W.kitOne K (.ref (ca 2)) (.type "ValueError") = some true
section
variable {P : Program} {w : World} {K : PySem.W.Frag} {mg : Str → Option Value} {base : Heap}
abbrev s_Program___init__ : Stmt := inClass (top 6) 0
theorem sc_Program___init__ : FnScope ["self", "inputs", "functions", "body"] ["self", "inputs", "functions", "body"] (defScope s_Program___init__) := ⟨rfl, rfl, rfl, by decide +kernel, rfl, by decide +kernel, by decide +kernel⟩
theorem ok_Program___init__ {ca : Nat → Addr} {f : Addr} {fd : FuncData} (T : Txt K mg ca)  (F : Fun K "__init__" "Program.__init__" s_Program___init__ f fd) (hm : Mk K (ca 3) f) : Fii P w K mg base 1 (ca 3) ["self", "inputs", "functions", "body"] (f_Program___init__ ca) := by
  refine fii (k := 0) F hm sc_Program___init__ (fun _ _ _ _ _ _ us hl => match us, hl with | [_, _, _, _], _ => rfl) (fun cdv A outer s H E hr => ?_)
  exact (mss_cons (ms_fld T.k3 T.n3_inputs (me_var 0) (me_callTV 1 cTuple (by rfl) T.b_tuple (by decide +kernel)))
    (mss_cons (ms_fld T.k3 T.n3_functions (me_var 0) (me_callTV 2 cTuple (by rfl) T.b_tuple (by decide +kernel)))
    (mss_one (ms_fld T.k3 T.n3_body (me_var 0) (me_callTV 3 cTuple (by rfl) T.b_tuple (by decide +kernel))))))
abbrev s_Program_unknowns : Stmt := inClass (top 6) 1
theorem sc_Program_unknowns : FnScope ["self", "ranges", "name", "size", "lo", "hi", "_"] ["self"] (defScope s_Program_unknowns) := ⟨rfl, rfl, rfl, by decide +kernel, rfl, by decide +kernel, by decide +kernel⟩
theorem ok_Program_unknowns {ca : Nat → Addr} {f : Addr} {fd : FuncData} (T : Txt K mg ca)  (F : Fun K "unknowns" "Program.unknowns" s_Program_unknowns f fd) (hm : ∃ p, PropOf K (ca 3) "unknowns" p f) : Fpp P w K mg base 1 (ca 3) "unknowns" ["self"] (f_Program_unknowns ca) := by
  refine fpp (k := 0) F hm sc_Program_unknowns (fun _ _ _ _ _ _ us hl => match us, hl with | [_], _ => rfl) (fun cdv A outer s H E hr => ?_)
  exact (mss_cons (ms_set 1 sc_Program_unknowns.nd (me_new (mf_lst ma_nil)))
    (mss_cons (ms_for rfl (mi_seq (me_fld T.k3 T.n3_inputs (me_var 0))) (mg_tup (n := 4) rfl (mgs_cons (mg_name 2 sc_Program_unknowns.nd) (mgs_cons (mg_name 3 sc_Program_unknowns.nd) (mgs_cons (mg_name 4 sc_Program_unknowns.nd) (mgs_cons (mg_name 5 sc_Program_unknowns.nd) mgs_nil))))) (mss_one (ms_for rfl (mi_rg1 (by rfl) T.b_range (me_callBs (cMax2 rfl) (by rfl) T.b_max (by decide +kernel) (ma_cons me_int (ma_cons (me_var 3) ma_nil)))) (mg_name 6 sc_Program_unknowns.nd) (mss_one (ms_set 1 sc_Program_unknowns.nd (me_op oAdd (me_var 1) (me_new (mf_lst (ma_cons (me_tup (ma_cons (me_var 4) (ma_cons (me_var 5) ma_nil))) ma_nil)))))))))
    (mss_one (ms_ret (me_var 1)))))
abbrev s_find_function : Stmt := top 7
theorem sc_find_function : FnScope ["functions", "name", "function"] ["functions", "name"] (defScope s_find_function) := ⟨rfl, rfl, rfl, by decide +kernel, rfl, by decide +kernel, by decide +kernel⟩
theorem ok_find_function {ca : Nat → Addr} {f : Addr} {fd : FuncData} (T : Txt K mg ca)  (F : Fun K "find_function" "find_function" s_find_function f fd) (hm : mg "find_function" = some (.ref f)) : Fnn P w K mg base 1 "find_function" ["functions", "name"] f_find_function := by
  refine fnn (k := 0) F hm sc_find_function (fun _ _ _ _ _ _ us hl => match us, hl with | [_, _], _ => rfl) (fun cdv A outer s H E hr => ?_)
  exact (mss_cons (ms_for rfl (mi_seq (me_var 0)) (mg_name 2 sc_find_function.nd) (mss_one (ms_if (mt_cmp (oEq2 hr.units) (me_ixV 2 oIx me_int) (me_var 1)) (mss_one (ms_ret (me_var 2))) mss_nil)))
    (mss_one (ms_ret me_non)))
abbrev s_value_of : Stmt := top 9
theorem sc_value_of : FnScope ["expression", "variables", "index", "numbers"] ["expression", "variables"] (defScope s_value_of) := ⟨rfl, rfl, rfl, by decide +kernel, rfl, by decide +kernel, by decide +kernel⟩
theorem ok_value_of {ca : Nat → Addr} {f : Addr} {fd : FuncData} (T : Txt K mg ca)  (F : Fun K "value_of" "value_of" s_value_of f fd) (hm : mg "value_of" = some (.ref f)) (n : Nat) : Fnn P w K mg base (1 + n) "value_of" ["expression", "variables"] (f_value_of n) := by
  induction n with
  | zero => exact fnn (k := 0) F hm sc_value_of (fun _ _ _ _ _ _ us hl => match us, hl with | [_, _], _ => rfl) (fun cdv A outer s H E hr => mss_none)
  | succ n G_rec =>
    refine fnn (k := 1 + n) F hm sc_value_of (fun _ _ _ _ _ _ us hl => match us, hl with | [_, _], _ => rfl) (fun cdv A outer s H E hr => ?_)
    exact (mss_cons (ms_if (mt_cmp (oEq2 hr.units) (me_ixV 0 oIx me_int) me_str) (mss_one (ms_ret (me_ixV 0 oIx me_int))) mss_nil)
    (mss_cons (ms_if (mt_cmp (oEq2 hr.units) (me_ixV 0 oIx me_int) me_str) (mss_one (ms_ret (me_op oAdd (me_ixKV (u1 hr) 1 (me_ixV 0 oIx me_int)) (me_ixV 0 oIx me_int)))) mss_nil)
    (mss_cons (ms_set 2 sc_value_of.nd (me_f G_rec (hr.mono (Nat.le_refl _)) (ma_cons (me_ixV 0 oIx me_int) (ma_cons (me_var 1) ma_nil))))
    (mss_cons (ms_set 3 sc_value_of.nd (me_ixKV (u1 hr) 1 (me_ixV 0 oIx me_int)))
    (mss_cons (ms_if (mt_not (mt_chain oLe oLt me_int (me_var 2) (me_callBV 3 cLen (by rfl) T.b_len PySem.boot_len))) (mss_one (ms_ret me_non)) mss_nil)
    (mss_one (ms_ret (me_op oAdd (me_ixV 3 oIx (me_var 2)) (me_ixV 0 oIx me_int)))))))))
abbrev s_compares : Stmt := top 10
theorem sc_compares : FnScope ["sign", "left", "right"] ["sign", "left", "right"] (defScope s_compares) := ⟨rfl, rfl, rfl, by decide +kernel, rfl, by decide +kernel, by decide +kernel⟩
theorem ok_compares {ca : Nat → Addr} {f : Addr} {fd : FuncData} (T : Txt K mg ca)  (F : Fun K "compares" "compares" s_compares f fd) (hm : mg "compares" = some (.ref f)) : Fnn P w K mg base 1 "compares" ["sign", "left", "right"] f_compares := by
  refine fnn (k := 0) F hm sc_compares (fun _ _ _ _ _ _ us hl => match us, hl with | [_, _, _], _ => rfl) (fun cdv A outer s H E hr => ?_)
  exact (mss_cons (ms_if (mt_cmp (oEq2 hr.units) (me_var 0) me_str) (mss_one (ms_ret (me_cmp oLt (me_var 1) (me_var 2)))) mss_nil)
    (mss_cons (ms_if (mt_cmp (oEq2 hr.units) (me_var 0) me_str) (mss_one (ms_ret (me_cmp oLe (me_var 1) (me_var 2)))) mss_nil)
    (mss_cons (ms_if (mt_cmp (oEq2 hr.units) (me_var 0) me_str) (mss_one (ms_ret (me_cmp oGt (me_var 1) (me_var 2)))) mss_nil)
    (mss_cons (ms_if (mt_cmp (oEq2 hr.units) (me_var 0) me_str) (mss_one (ms_ret (me_cmp oGe (me_var 1) (me_var 2)))) mss_nil)
    (mss_cons (ms_if (mt_cmp (oEq2 hr.units) (me_var 0) me_str) (mss_one (ms_ret (me_cmp (oEq2 hr.units) (me_var 1) (me_var 2)))) mss_nil)
    (mss_one (ms_ret (me_cmp (oNe2 hr.units) (me_var 1) (me_var 2)))))))))
abbrev s_truth_of : Stmt := top 11
theorem sc_truth_of : FnScope ["condition", "variables", "left", "right", "truth", "goes_on", "part"] ["condition", "variables"] (defScope s_truth_of) := ⟨rfl, rfl, rfl, by decide +kernel, rfl, by decide +kernel, by decide +kernel⟩
theorem ok_truth_of {ca : Nat → Addr} {f : Addr} {fd : FuncData} (T : Txt K mg ca) (G_value_of : Fnn P w K mg base 9 "value_of" ["expression", "variables"] (f_value_of 8)) (G_compares : Fnn P w K mg base 1 "compares" ["sign", "left", "right"] f_compares) (F : Fun K "truth_of" "truth_of" s_truth_of f fd) (hm : mg "truth_of" = some (.ref f)) (n : Nat) : Fnn P w K mg base (10 + n) "truth_of" ["condition", "variables"] (f_truth_of n) := by
  induction n with
  | zero => exact fnn (k := 9) F hm sc_truth_of (fun _ _ _ _ _ _ us hl => match us, hl with | [_, _], _ => rfl) (fun cdv A outer s H E hr => mss_none)
  | succ n G_rec =>
    refine fnn (k := 10 + n) F hm sc_truth_of (fun _ _ _ _ _ _ us hl => match us, hl with | [_, _], _ => rfl) (fun cdv A outer s H E hr => ?_)
    exact (mss_cons (ms_if (mt_cmp (oEq2 hr.units) (me_ixV 0 oIx me_int) me_str) (mss_cons (ms_set 2 sc_truth_of.nd (me_f G_value_of (hr.mono (by omega)) (ma_cons (me_ixV 0 oIx me_int) (ma_cons (me_var 1) ma_nil))))
    (mss_cons (ms_set 3 sc_truth_of.nd (me_f G_value_of (hr.mono (by omega)) (ma_cons (me_ixV 0 oIx me_int) (ma_cons (me_var 1) ma_nil))))
    (mss_cons (ms_if (mt_w (mw_or (mt_cmp oIsN (me_var 2) me_non) (mw_or1 (mt_cmp oIsN (me_var 3) me_non)))) (mss_one (ms_ret me_non)) mss_nil)
    (mss_one (ms_ret (me_f G_compares (hr.mono (by omega)) (ma_cons (me_ixV 0 oIx me_int) (ma_cons (me_var 2) (ma_cons (me_var 3) ma_nil))))))))) mss_nil)
    (mss_cons (ms_if (mt_cmp (oEq2 hr.units) (me_ixV 0 oIx me_int) me_str) (mss_cons (ms_set 4 sc_truth_of.nd (me_f G_rec (hr.mono (Nat.le_refl _)) (ma_cons (me_ixV 0 oIx me_int) (ma_cons (me_var 1) ma_nil))))
    (mss_cons (ms_if (mt_cmp oIsN (me_var 4) me_non) (mss_one (ms_ret me_non)) mss_nil)
    (mss_one (ms_ret (me_not (me_var 4)))))) mss_nil)
    (mss_cons (ms_set 5 sc_truth_of.nd (me_cmp (oEq2 hr.units) (me_ixV 0 oIx me_int) me_str))
    (mss_cons (ms_for rfl (mi_seq (me_ixV 0 oIx me_int)) (mg_name 6 sc_truth_of.nd) (mss_cons (ms_set 4 sc_truth_of.nd (me_f G_rec (hr.mono (Nat.le_refl _)) (ma_cons (me_var 6) (ma_cons (me_var 1) ma_nil))))
    (mss_one (ms_if (mt_w (mw_or (mt_cmp oIsN (me_var 4) me_non) (mw_or1 (mt_cmp (oNe2 hr.units) (me_var 4) (me_var 5))))) (mss_one (ms_ret (me_var 4))) mss_nil))))
    (mss_one (ms_ret (me_var 5)))))))
abbrev s_Watch___init__ : Stmt := inClass (top 13) 0
theorem sc_Watch___init__ : FnScope ["self", "place"] ["self", "place"] (defScope s_Watch___init__) := ⟨rfl, rfl, rfl, by decide +kernel, rfl, by decide +kernel, by decide +kernel⟩
theorem ok_Watch___init__ {ca : Nat → Addr} {f : Addr} {fd : FuncData} (T : Txt K mg ca)  (F : Fun K "__init__" "Watch.__init__" s_Watch___init__ f fd) (hm : Mk K (ca 4) f) : Fii P w K mg base 1 (ca 4) ["self", "place"] (f_Watch___init__ ca) := by
  refine fii (k := 0) F hm sc_Watch___init__ (fun _ _ _ _ _ _ us hl => match us, hl with | [_, _], _ => rfl) (fun cdv A outer s H E hr => ?_)
  exact (mss_cons (ms_fld T.k4 T.n4_place (me_var 0) (me_callTV 1 cTuple (by rfl) T.b_tuple (by decide +kernel)))
    (mss_one (ms_fld T.k4 T.n4_progress (me_var 0) me_int)))
abbrev s_Watch_next_atom : Stmt := inClass (top 13) 1
theorem sc_Watch_next_atom : FnScope ["self"] ["self"] (defScope s_Watch_next_atom) := ⟨rfl, rfl, rfl, by decide +kernel, rfl, by decide +kernel, by decide +kernel⟩
theorem ok_Watch_next_atom {ca : Nat → Addr} {f : Addr} {fd : FuncData} (T : Txt K mg ca)  (F : Fun K "next_atom" "Watch.next_atom" s_Watch_next_atom f fd) (hm : Meth K (ca 4) "next_atom" f) : Fmm P w K mg base 1 (ca 4) "next_atom" ["self"] (f_Watch_next_atom ca) := by
  refine fmm (k := 0) F hm sc_Watch_next_atom (fun _ _ _ _ _ _ us hl => match us, hl with | [_], _ => rfl) (fun cdv A outer s H E hr => ?_)
  exact (mss_cons (ms_if (mt_cmp oLt (me_fld T.k4 T.n4_progress (me_var 0)) (me_callB cLen (by rfl) T.b_len PySem.boot_len (me_fld T.k4 T.n4_place (me_var 0)))) (mss_one (ms_ret (me_ix oIx (me_fld T.k4 T.n4_place (me_var 0)) (me_fld T.k4 T.n4_progress (me_var 0))))) mss_nil)
    (mss_one (ms_ret me_non)))
abbrev s_Watch_wanted : Stmt := inClass (top 13) 2
theorem sc_Watch_wanted : FnScope ["self", "event", "atom"] ["self", "event"] (defScope s_Watch_wanted) := ⟨rfl, rfl, rfl, by decide +kernel, rfl, by decide +kernel, by decide +kernel⟩
theorem ok_Watch_wanted {ca : Nat → Addr} {f : Addr} {fd : FuncData} (T : Txt K mg ca) (G_Watch_next_atom : Fmm P w K mg base 1 (ca 4) "next_atom" ["self"] (f_Watch_next_atom ca)) (F : Fun K "wanted" "Watch.wanted" s_Watch_wanted f fd) (hm : Meth K (ca 4) "wanted" f) : Fmm P w K mg base 2 (ca 4) "wanted" ["self", "event"] (f_Watch_wanted ca) := by
  refine fmm (k := 1) F hm sc_Watch_wanted (fun _ _ _ _ _ _ us hl => match us, hl with | [_, _], _ => rfl) (fun cdv A outer s H E hr => ?_)
  exact (mss_cons (ms_set 2 sc_Watch_wanted.nd (me_meth0 T.k4 G_Watch_next_atom (hr.mono (by decide)) (me_var 0)))
    (mss_cons (ms_if (mt_w (mw_or (mt_cmp oIsN (me_var 2) me_non) (mw_or (mt_cmp (oNe2 hr.units) (me_ixV 2 oIx me_int) me_str) (mw_or1 (mt_cmp (oNe2 hr.units) (me_var 1) (me_tup (ma_cons me_str (ma_cons (me_ixV 2 oIx me_int) ma_nil)))))))) (mss_one (ms_ret me_non)) mss_nil)
    (mss_one (ms_ret (me_tup (ma_cons (me_ixV 2 oIx me_int) (ma_cons (me_ixV 2 oIx me_int) (ma_cons (me_ixV 2 oIx me_int) ma_nil))))))))
abbrev s_Watch_meets : Stmt := inClass (top 13) 3
theorem sc_Watch_meets : FnScope ["self", "event", "truth"] ["self", "event", "truth"] (defScope s_Watch_meets) := ⟨rfl, rfl, rfl, by decide +kernel, rfl, by decide +kernel, by decide +kernel⟩
theorem ok_Watch_meets {ca : Nat → Addr} {f : Addr} {fd : FuncData} (T : Txt K mg ca) (G_Watch_next_atom : Fmm P w K mg base 1 (ca 4) "next_atom" ["self"] (f_Watch_next_atom ca)) (G_Watch_wanted : Fmm P w K mg base 2 (ca 4) "wanted" ["self", "event"] (f_Watch_wanted ca)) (F : Fun K "meets" "Watch.meets" s_Watch_meets f fd) (hm : Meth K (ca 4) "meets" f) : Fmm P w K mg base 3 (ca 4) "meets" ["self", "event", "truth"] (f_Watch_meets ca) := by
  refine fmm (k := 2) F hm sc_Watch_meets (fun _ _ _ _ _ _ us hl => match us, hl with | [_, _, _], _ => rfl) (fun cdv A outer s H E hr => ?_)
  exact (mss_cons (ms_if (mt_cmp oNotN (me_meth T.k4 G_Watch_wanted (hr.mono (by decide)) (me_var 0) (ma_cons (me_var 1) ma_nil)) me_non) (mss_one (ms_ret (me_var 2))) mss_nil)
    (mss_one (ms_ret (me_cmp (oEq2 hr.units) (me_var 1) (me_meth0 T.k4 G_Watch_next_atom (hr.mono (by decide)) (me_var 0))))))
abbrev s_Watch_see : Stmt := inClass (top 13) 4
theorem sc_Watch_see : FnScope ["self", "event", "truth"] ["self", "event", "truth"] (defScope s_Watch_see) := ⟨rfl, rfl, rfl, by decide +kernel, rfl, by decide +kernel, by decide +kernel⟩
theorem ok_Watch_see {ca : Nat → Addr} {f : Addr} {fd : FuncData} (T : Txt K mg ca) (G_Watch_meets : Fmm P w K mg base 3 (ca 4) "meets" ["self", "event", "truth"] (f_Watch_meets ca)) (F : Fun K "see" "Watch.see" s_Watch_see f fd) (hm : Meth K (ca 4) "see" f) : Fmm P w K mg base 4 (ca 4) "see" ["self", "event", "truth"] (f_Watch_see ca) := by
  refine fmm (k := 3) F hm sc_Watch_see (fun _ _ _ _ _ _ us hl => match us, hl with | [_, _, _], _ => rfl) (fun cdv A outer s H E hr => ?_)
  exact (mss_cons (ms_if (mt_not (mt_tru (me_meth T.k4 G_Watch_meets (hr.mono (by decide)) (me_var 0) (ma_cons (me_var 1) (ma_cons (me_var 2) ma_nil))))) (mss_one (ms_ret me_bl)) mss_nil)
    (mss_cons (ms_fldAug (f := (fun i j => i + j)) in_add T.k4 T.n4_progress (me_var 0) me_int)
    (mss_one (ms_ret (me_cmp (oEq2 hr.units) (me_fld T.k4 T.n4_progress (me_var 0)) (me_callB cLen (by rfl) T.b_len PySem.boot_len (me_fld T.k4 T.n4_place (me_var 0))))))))
abbrev s_Run___init__ : Stmt := inClass (top 15) 0
theorem sc_Run___init__ : FnScope ["self", "place"] ["self", "place"] (defScope s_Run___init__) := ⟨rfl, rfl, rfl, by decide +kernel, rfl, by decide +kernel, by decide +kernel⟩
theorem ok_Run___init__ {ca : Nat → Addr} {f : Addr} {fd : FuncData} (T : Txt K mg ca) (G_Watch___init__ : Fii P w K mg base 1 (ca 4) ["self", "place"] (f_Watch___init__ ca)) (F : Fun K "__init__" "Run.__init__" s_Run___init__ f fd) (hm : Mk K (ca 5) f) : Fii P w K mg base 3 (ca 5) ["self", "place"] (f_Run___init__ ca) := by
  refine fii (k := 2) F hm sc_Run___init__ (fun _ _ _ _ _ _ us hl => match us, hl with | [_, _], _ => rfl) (fun cdv A outer s H E hr => ?_)
  exact (mss_cons (ms_fld T.k5 T.n5_outcome (me_var 0) (me_tup (ma_cons me_str ma_nil)))
    (mss_cons (ms_fldC T.k5 T.n5_events (me_var 0) (mf_lst ma_nil))
    (mss_cons (ms_fld T.k5 T.n5_met (me_var 0) me_non)
    (mss_one (ms_fld T.k5 T.n5_watch (me_var 0) (me_make G_Watch___init__ (hr.mono (by decide)) T.m4 (ma_cons (me_var 1) ma_nil)))))))
abbrev s_Run_sees : Stmt := inClass (top 15) 2
theorem sc_Run_sees : FnScope ["self", "event", "variables", "wanted"] ["self", "event", "variables"] (defScope s_Run_sees) := ⟨rfl, rfl, rfl, by decide +kernel, rfl, by decide +kernel, by decide +kernel⟩
theorem ok_Run_sees {ca : Nat → Addr} {f : Addr} {fd : FuncData} (T : Txt K mg ca) (G_truth_of : Fnn P w K mg base 18 "truth_of" ["condition", "variables"] (f_truth_of 8)) (G_Watch_wanted : Fmm P w K mg base 2 (ca 4) "wanted" ["self", "event"] (f_Watch_wanted ca)) (G_Watch_see : Fmm P w K mg base 4 (ca 4) "see" ["self", "event", "truth"] (f_Watch_see ca)) (F : Fun K "sees" "Run.sees" s_Run_sees f fd) (hm : Meth K (ca 5) "sees" f) : Fmm P w K mg base 19 (ca 5) "sees" ["self", "event", "variables"] (f_Run_sees ca) := by
  refine fmm (k := 18) F hm sc_Run_sees (fun _ _ _ _ _ _ us hl => match us, hl with | [_, _, _], _ => rfl) (fun cdv A outer s H E hr => ?_)
  exact (mss_cons (ms_set 3 sc_Run_sees.nd (me_meth T.k4 G_Watch_wanted (hr.mono (by decide)) (me_fld T.k5 T.n5_watch (me_var 0)) (ma_cons (me_var 1) ma_nil)))
    (mss_cons (ms_if (mt_cmp oIsN (me_var 3) me_non) (mss_one (ms_ret (me_meth T.k4 G_Watch_see (hr.mono (by decide)) (me_fld T.k5 T.n5_watch (me_var 0)) (ma_cons (me_var 1) (ma_cons me_bl ma_nil))))) mss_nil)
    (mss_one (ms_ret (me_meth T.k4 G_Watch_see (hr.mono (by decide)) (me_fld T.k5 T.n5_watch (me_var 0)) (ma_cons (me_var 1) (ma_cons (me_cmp oIs2 (me_f G_truth_of (hr.mono (by decide)) (ma_cons (me_op oAdd (me_tup (ma_cons me_str ma_nil)) (me_var 3)) (ma_cons (me_var 2) ma_nil))) me_bl) ma_nil)))))))
abbrev s_Run_happen : Stmt := inClass (top 15) 1
theorem sc_Run_happen : FnScope ["self", "event", "variables"] ["self", "event", "variables"] (defScope s_Run_happen) := ⟨rfl, rfl, rfl, by decide +kernel, rfl, by decide +kernel, by decide +kernel⟩
theorem ok_Run_happen {ca : Nat → Addr} {f : Addr} {fd : FuncData} (T : Txt K mg ca) (G_Run_sees : Fmm P w K mg base 19 (ca 5) "sees" ["self", "event", "variables"] (f_Run_sees ca)) (F : Fun K "happen" "Run.happen" s_Run_happen f fd) (hm : Meth K (ca 5) "happen" f) : Fmm P w K mg base 20 (ca 5) "happen" ["self", "event", "variables"] (f_Run_happen ca) := by
  refine fmm (k := 19) F hm sc_Run_happen (fun _ _ _ _ _ _ us hl => match us, hl with | [_, _, _], _ => rfl) (fun cdv A outer s H E hr => ?_)
  exact (mss_cons (ms_if (mt_w (mw_and (mt_cmp oIsN (me_fld T.k5 T.n5_met (me_var 0)) me_non) (mw_and1 (mt_tru (me_meth T.k5 G_Run_sees (hr.mono (by decide)) (me_var 0) (ma_cons (me_var 1) (ma_cons (me_var 2) ma_nil))))))) (mss_one (ms_fld T.k5 T.n5_met (me_var 0) (me_callB cLen (by rfl) T.b_len PySem.boot_len (me_fld T.k5 T.n5_events (me_var 0))))) mss_nil)
    (mss_one (ms_expr (me_appE (me_fld T.k5 T.n5_events (me_var 0)) (me_var 1)))))
abbrev s_Run_fault : Stmt := inClass (top 15) 3
theorem sc_Run_fault : FnScope ["self", "row", "kind", "variables"] ["self", "row", "kind", "variables"] (defScope s_Run_fault) := ⟨rfl, rfl, rfl, by decide +kernel, rfl, by decide +kernel, by decide +kernel⟩
theorem ok_Run_fault {ca : Nat → Addr} {f : Addr} {fd : FuncData} (T : Txt K mg ca) (G_Run_happen : Fmm P w K mg base 20 (ca 5) "happen" ["self", "event", "variables"] (f_Run_happen ca)) (F : Fun K "fault" "Run.fault" s_Run_fault f fd) (hm : Meth K (ca 5) "fault" f) : Fmm P w K mg base 21 (ca 5) "fault" ["self", "row", "kind", "variables"] (f_Run_fault ca) := by
  refine fmm (k := 20) F hm sc_Run_fault (fun _ _ _ _ _ _ us hl => match us, hl with | [_, _, _, _], _ => rfl) (fun cdv A outer s H E hr => ?_)
  exact (mss_cons (ms_expr (me_meth T.k5 G_Run_happen (hr.mono (by decide)) (me_var 0) (ma_cons (me_tup (ma_cons me_str (ma_cons (me_var 1) (ma_cons (me_var 2) ma_nil)))) (ma_cons (me_var 3) ma_nil))))
    (mss_one (ms_ret (me_tup (ma_cons me_str (ma_cons (me_var 1) (ma_cons (me_var 2) ma_nil)))))))
abbrev s_Frame___init__ : Stmt := inClass (top 16) 0
theorem sc_Frame___init__ : FnScope ["self", "variables"] ["self", "variables"] (defScope s_Frame___init__) := ⟨rfl, rfl, rfl, by decide +kernel, rfl, by decide +kernel, by decide +kernel⟩
theorem ok_Frame___init__ {ca : Nat → Addr} {f : Addr} {fd : FuncData} (T : Txt K mg ca)  (F : Fun K "__init__" "Frame.__init__" s_Frame___init__ f fd) (hm : Mk K (ca 6) f) : Fii P w K mg base 1 (ca 6) ["self", "variables"] (f_Frame___init__ ca) := by
  refine fii (k := 0) F hm sc_Frame___init__ (fun _ _ _ _ _ _ us hl => match us, hl with | [_, _], _ => rfl) (fun cdv A outer s H E hr => ?_)
  exact (mss_cons (ms_fld T.k6 T.n6_variables (me_var 0) (me_var 1))
    (mss_one (ms_fldC T.k6 T.n6_ranges (me_var 0) mf_dK)))
abbrev s_is_integer : Stmt := top 17
theorem sc_is_integer : FnScope ["number"] ["number"] (defScope s_is_integer) := ⟨rfl, rfl, rfl, by decide +kernel, rfl, by decide +kernel, by decide +kernel⟩
theorem ok_is_integer {ca : Nat → Addr} {f : Addr} {fd : FuncData} (T : Txt K mg ca)  (F : Fun K "is_integer" "is_integer" s_is_integer f fd) (hm : mg "is_integer" = some (.ref f)) : Fnn P w K mg base 1 "is_integer" ["number"] f_is_integer := by
  refine fnn (k := 0) F hm sc_is_integer (fun _ _ _ _ _ _ us hl => match us, hl with | [_], _ => rfl) (fun cdv A outer s H E hr => ?_)
  exact (mss_one (ms_ret (me_and (me_isiC (T := "int") (by rfl) T.b_isinstance (by rfl) T.b_int (by decide +kernel) (me_var 0)) (me_one (me_not (me_isiC (T := "bool") (by rfl) T.b_isinstance (by rfl) T.b_bool (by decide +kernel) (me_var 0)))))))
abbrev s_is_input : Stmt := top 18
theorem sc_is_input : FnScope ["program", "inputs", "unknowns", "number", "lo", "hi"] ["program", "inputs"] (defScope s_is_input) := ⟨rfl, rfl, rfl, by decide +kernel, rfl, by decide +kernel, by decide +kernel⟩
theorem ok_is_input {ca : Nat → Addr} {f : Addr} {fd : FuncData} (T : Txt K mg ca) (G_Program_unknowns : Fpp P w K mg base 1 (ca 3) "unknowns" ["self"] (f_Program_unknowns ca)) (G_is_integer : Fnn P w K mg base 1 "is_integer" ["number"] f_is_integer) (F : Fun K "is_input" "is_input" s_is_input f fd) (hm : mg "is_input" = some (.ref f)) : Fnn P w K mg base 3 "is_input" ["program", "inputs"] (f_is_input ca) := by
  refine fnn (k := 2) F hm sc_is_input (fun _ _ _ _ _ _ us hl => match us, hl with | [_, _], _ => rfl) (fun cdv A outer s H E hr => ?_)
  exact (mss_cons (ms_set 2 sc_is_input.nd (me_prop T.k3 G_Program_unknowns (hr.mono (by decide)) (me_var 0)))
    (mss_cons (ms_if (mt_w (mw_or (mt_not (mt_tru (me_isi2 (T := "list") (U := "tuple") (by rfl) T.b_isinstance (by rfl) T.b_list (by decide +kernel) (by rfl) T.b_tuple (by decide +kernel) (me_var 1)))) (mw_or1 (mt_cmp (oNe2 hr.units) (me_callBV 1 cLen (by rfl) T.b_len PySem.boot_len) (me_callBV 2 cLen (by rfl) T.b_len PySem.boot_len))))) (mss_one (ms_ret me_bl)) mss_nil)
    (mss_cons (ms_for rfl (mi_zip2 (by rfl) T.b_zip (me_var 1) (me_var 2)) (mg_tup (n := 2) rfl (mgs_cons (mg_name 3 sc_is_input.nd) (mgs_cons (mg_tup (n := 2) rfl (mgs_cons (mg_name 4 sc_is_input.nd) (mgs_cons (mg_name 5 sc_is_input.nd) mgs_nil))) mgs_nil))) (mss_one (ms_if (mt_w (mw_or (mt_not (mt_tru (me_f G_is_integer (hr.mono (by decide)) (ma_cons (me_var 3) ma_nil)))) (mw_or1 (mt_not (mt_chain oLe oLe (me_var 4) (me_var 3) (me_var 5)))))) (mss_one (ms_ret me_bl)) mss_nil)))
    (mss_one (ms_ret me_bl)))))
abbrev s_input_variables : Stmt := top 19
theorem sc_input_variables : FnScope ["program", "inputs", "variables", "at", "name", "size", "lo", "hi"] ["program", "inputs"] (defScope s_input_variables) := ⟨rfl, rfl, rfl, by decide +kernel, rfl, by decide +kernel, by decide +kernel⟩
theorem ok_input_variables {ca : Nat → Addr} {f : Addr} {fd : FuncData} (T : Txt K mg ca)  (F : Fun K "input_variables" "input_variables" s_input_variables f fd) (hm : mg "input_variables" = some (.ref f)) : Fnn P w K mg base 1 "input_variables" ["program", "inputs"] (f_input_variables ca) := by
  refine fnn (k := 0) F hm sc_input_variables (fun _ _ _ _ _ _ us hl => match us, hl with | [_, _], _ => rfl) (fun cdv A outer s H E hr => ?_)
  exact (mss_cons (ms_cell 2 sc_input_variables.nd mf_dK)
    (mss_cons (ms_set 3 sc_input_variables.nd me_int)
    (mss_cons (ms_for rfl (mi_seq (me_fld T.k3 T.n3_inputs (me_var 0))) (mg_tup (n := 4) rfl (mgs_cons (mg_name 4 sc_input_variables.nd) (mgs_cons (mg_name 5 sc_input_variables.nd) (mgs_cons (mg_name 6 sc_input_variables.nd) (mgs_cons (mg_name 7 sc_input_variables.nd) mgs_nil))))) (mss_one (ms_if (mt_cmp (oEq2 hr.units) (me_var 5) me_int) (mss_cons (ms_asg (me_ixV 1 oIx (me_var 3)) (mg_subK (u1 hr) 2 (me_var 4)))
    (mss_one (ms_aug 3 ip_add sc_input_variables.nd me_int))) (mss_cons (ms_asg (me_cel (mf_callT cList (by rfl) T.b_list (by decide +kernel) (me_sl3 (me_var 1) (mo_some (me_var 3)) (mo_some (me_op oAdd (me_var 3) (me_var 5)))))) (mg_subK (u1 hr) 2 (me_var 4)))
    (mss_one (ms_aug 3 ip_add sc_input_variables.nd (me_var 5)))))))
    (mss_one (ms_ret (me_var 2))))))
abbrev s_store : Stmt := top 20
theorem sc_store : FnScope ["run", "frame", "row", "name", "value", "lo", "hi"] ["run", "frame", "row", "name", "value"] (defScope s_store) := ⟨rfl, rfl, rfl, by decide +kernel, rfl, by decide +kernel, by decide +kernel⟩
theorem ok_store {ca : Nat → Addr} {f : Addr} {fd : FuncData} (T : Txt K mg ca) (G_Run_fault : Fmm P w K mg base 21 (ca 5) "fault" ["self", "row", "kind", "variables"] (f_Run_fault ca)) (F : Fun K "store" "store" s_store f fd) (hm : mg "store" = some (.ref f)) : Fnn P w K mg base 22 "store" ["run", "frame", "row", "name", "value"] (f_store ca) := by
  refine fnn (k := 21) F hm sc_store (fun _ _ _ _ _ _ us hl => match us, hl with | [_, _, _, _, _], _ => rfl) (fun cdv A outer s H E hr => ?_)
  exact (mss_cons (ms_if (mt_cmp oIsN (me_var 4) me_non) (mss_one (ms_ret (me_meth T.k5 G_Run_fault (hr.mono (by decide)) (me_var 0) (ma_cons (me_var 2) (ma_cons me_str (ma_cons (me_fld T.k6 T.n6_variables (me_var 1)) ma_nil)))))) mss_nil)
    (mss_cons (ms_if (mt_dinK (u1 hr) (me_var 3) (me_fld T.k6 T.n6_ranges (me_var 1))) (mss_cons (ms_asg (me_ixK (u1 hr) (me_fld T.k6 T.n6_ranges (me_var 1)) (me_var 3)) (mg_tup (n := 2) rfl (mgs_cons (mg_name 5 sc_store.nd) (mgs_cons (mg_name 6 sc_store.nd) mgs_nil))))
    (mss_one (ms_if (mt_not (mt_chain oLe oLe (me_var 5) (me_var 4) (me_var 6))) (mss_one (ms_ret (me_meth T.k5 G_Run_fault (hr.mono (by decide)) (me_var 0) (ma_cons (me_var 2) (ma_cons me_str (ma_cons (me_fld T.k6 T.n6_variables (me_var 1)) ma_nil)))))) mss_nil))) mss_nil)
    (mss_cons (ms_asg (me_var 4) (mg_subKE (u1 hr) (me_fld T.k6 T.n6_variables (me_var 1)) (me_var 3)))
    (mss_one (ms_ret me_non)))))
abbrev s_do_let : Stmt := top 21
theorem sc_do_let : FnScope ["run", "frame", "statement", "name"] ["run", "frame", "statement"] (defScope s_do_let) := ⟨rfl, rfl, rfl, by decide +kernel, rfl, by decide +kernel, by decide +kernel⟩
theorem ok_do_let {ca : Nat → Addr} {f : Addr} {fd : FuncData} (T : Txt K mg ca) (G_value_of : Fnn P w K mg base 9 "value_of" ["expression", "variables"] (f_value_of 8)) (G_store : Fnn P w K mg base 22 "store" ["run", "frame", "row", "name", "value"] (f_store ca)) (F : Fun K "do_let" "do_let" s_do_let f fd) (hm : mg "do_let" = some (.ref f)) : Fnn P w K mg base 23 "do_let" ["run", "frame", "statement"] (f_do_let ca) := by
  refine fnn (k := 22) F hm sc_do_let (fun _ _ _ _ _ _ us hl => match us, hl with | [_, _, _], _ => rfl) (fun cdv A outer s H E hr => ?_)
  exact (mss_cons (ms_set 3 sc_do_let.nd (me_ixV 2 oIx me_int))
    (mss_cons (ms_if (mt_cmp oNotN (me_ixV 2 oIx me_int) me_non) (mss_one (ms_asg (me_tup (ma_cons (me_ixV 2 oIx me_int) (ma_cons (me_ixV 2 oIx me_int) ma_nil))) (mg_subKE (u1 hr) (me_fld T.k6 T.n6_ranges (me_var 1)) (me_var 3)))) mss_nil)
    (mss_one (ms_ret (me_f G_store (hr.mono (by decide)) (ma_cons (me_var 0) (ma_cons (me_var 1) (ma_cons (me_ixV 2 oIx me_int) (ma_cons (me_var 3) (ma_cons (me_f G_value_of (hr.mono (by decide)) (ma_cons (me_ixV 2 oIx me_int) (ma_cons (me_fld T.k6 T.n6_variables (me_var 1)) ma_nil))) ma_nil))))))))))
abbrev s_do_list : Stmt := top 22
theorem sc_do_list : FnScope ["run", "frame", "statement", "value"] ["run", "frame", "statement"] (defScope s_do_list) := ⟨rfl, rfl, rfl, by decide +kernel, rfl, by decide +kernel, by decide +kernel⟩
theorem ok_do_list {ca : Nat → Addr} {f : Addr} {fd : FuncData} (T : Txt K mg ca) (G_value_of : Fnn P w K mg base 9 "value_of" ["expression", "variables"] (f_value_of 8)) (G_Run_fault : Fmm P w K mg base 21 (ca 5) "fault" ["self", "row", "kind", "variables"] (f_Run_fault ca)) (F : Fun K "do_list" "do_list" s_do_list f fd) (hm : mg "do_list" = some (.ref f)) : Fnn P w K mg base 22 "do_list" ["run", "frame", "statement"] (f_do_list ca) := by
  refine fnn (k := 21) F hm sc_do_list (fun _ _ _ _ _ _ us hl => match us, hl with | [_, _, _], _ => rfl) (fun cdv A outer s H E hr => ?_)
  exact (mss_cons (ms_set 3 sc_do_list.nd (me_f G_value_of (hr.mono (by decide)) (ma_cons (me_ixV 2 oIx me_int) (ma_cons (me_fld T.k6 T.n6_variables (me_var 1)) ma_nil))))
    (mss_cons (ms_if (mt_cmp oIsN (me_var 3) me_non) (mss_one (ms_ret (me_meth T.k5 G_Run_fault (hr.mono (by decide)) (me_var 0) (ma_cons (me_ixV 2 oIx me_int) (ma_cons me_str (ma_cons (me_fld T.k6 T.n6_variables (me_var 1)) ma_nil)))))) mss_nil)
    (mss_cons (ms_asg (me_cel (mf_rep (me_new (mf_lst (ma_cons (me_var 3) ma_nil))) (me_ixV 2 oIx me_int))) (mg_subKE (u1 hr) (me_fld T.k6 T.n6_variables (me_var 1)) (me_ixV 2 oIx me_int)))
    (mss_one (ms_ret me_non)))))
abbrev s_do_put : Stmt := top 23
theorem sc_do_put : FnScope ["run", "frame", "statement", "numbers", "index", "value"] ["run", "frame", "statement"] (defScope s_do_put) := ⟨rfl, rfl, rfl, by decide +kernel, rfl, by decide +kernel, by decide +kernel⟩
theorem ok_do_put {ca : Nat → Addr} {f : Addr} {fd : FuncData} (T : Txt K mg ca) (G_value_of : Fnn P w K mg base 9 "value_of" ["expression", "variables"] (f_value_of 8)) (G_Run_fault : Fmm P w K mg base 21 (ca 5) "fault" ["self", "row", "kind", "variables"] (f_Run_fault ca)) (F : Fun K "do_put" "do_put" s_do_put f fd) (hm : mg "do_put" = some (.ref f)) : Fnn P w K mg base 22 "do_put" ["run", "frame", "statement"] (f_do_put ca) := by
  refine fnn (k := 21) F hm sc_do_put (fun _ _ _ _ _ _ us hl => match us, hl with | [_, _, _], _ => rfl) (fun cdv A outer s H E hr => ?_)
  exact (mss_cons (ms_set 3 sc_do_put.nd (me_ixK (u1 hr) (me_fld T.k6 T.n6_variables (me_var 1)) (me_ixV 2 oIx me_int)))
    (mss_cons (ms_set 4 sc_do_put.nd (me_f G_value_of (hr.mono (by decide)) (ma_cons (me_ixV 2 oIx me_int) (ma_cons (me_fld T.k6 T.n6_variables (me_var 1)) ma_nil))))
    (mss_cons (ms_set 5 sc_do_put.nd (me_f G_value_of (hr.mono (by decide)) (ma_cons (me_ixV 2 oIx me_int) (ma_cons (me_fld T.k6 T.n6_variables (me_var 1)) ma_nil))))
    (mss_cons (ms_if (mt_w (mw_or (mt_not (mt_chain oLe oLt me_int (me_var 4) (me_callBV 3 cLen (by rfl) T.b_len PySem.boot_len))) (mw_or1 (mt_cmp oIsN (me_var 5) me_non)))) (mss_one (ms_ret (me_meth T.k5 G_Run_fault (hr.mono (by decide)) (me_var 0) (ma_cons (me_ixV 2 oIx me_int) (ma_cons me_str (ma_cons (me_fld T.k6 T.n6_variables (me_var 1)) ma_nil)))))) mss_nil)
    (mss_cons (ms_asg (me_var 5) (mg_sub 3 (me_var 4)))
    (mss_one (ms_ret me_non)))))))
abbrev s_ask : Stmt := top 26
theorem sc_ask : FnScope ["run", "frame", "statement", "row", "truth"] ["run", "frame", "statement"] (defScope s_ask) := ⟨rfl, rfl, rfl, by decide +kernel, rfl, by decide +kernel, by decide +kernel⟩
theorem ok_ask {ca : Nat → Addr} {f : Addr} {fd : FuncData} (T : Txt K mg ca) (G_truth_of : Fnn P w K mg base 18 "truth_of" ["condition", "variables"] (f_truth_of 8)) (G_Run_happen : Fmm P w K mg base 20 (ca 5) "happen" ["self", "event", "variables"] (f_Run_happen ca)) (F : Fun K "ask" "ask" s_ask f fd) (hm : mg "ask" = some (.ref f)) : Fnn P w K mg base 21 "ask" ["run", "frame", "statement"] (f_ask ca) := by
  refine fnn (k := 20) F hm sc_ask (fun _ _ _ _ _ _ us hl => match us, hl with | [_, _, _], _ => rfl) (fun cdv A outer s H E hr => ?_)
  exact (mss_cons (ms_set 3 sc_ask.nd (me_ixV 2 oIx me_int))
    (mss_cons (ms_expr (me_meth T.k5 G_Run_happen (hr.mono (by decide)) (me_var 0) (ma_cons (me_tup (ma_cons me_str (ma_cons (me_var 3) ma_nil))) (ma_cons (me_fld T.k6 T.n6_variables (me_var 1)) ma_nil))))
    (mss_cons (ms_set 4 sc_ask.nd (me_f G_truth_of (hr.mono (by decide)) (ma_cons (me_ixV 2 oIx me_int) (ma_cons (me_fld T.k6 T.n6_variables (me_var 1)) ma_nil))))
    (mss_cons (ms_if (mt_cmp oIs2 (me_var 4) me_bl) (mss_one (ms_expr (me_meth T.k5 G_Run_happen (hr.mono (by decide)) (me_var 0) (ma_cons (me_tup (ma_cons me_str (ma_cons (me_var 3) ma_nil))) (ma_cons (me_fld T.k6 T.n6_variables (me_var 1)) ma_nil))))) mss_nil)
    (mss_cons (ms_if (mt_cmp oIs2 (me_var 4) me_bl) (mss_one (ms_expr (me_meth T.k5 G_Run_happen (hr.mono (by decide)) (me_var 0) (ma_cons (me_tup (ma_cons me_str (ma_cons (me_var 3) ma_nil))) (ma_cons (me_fld T.k6 T.n6_variables (me_var 1)) ma_nil))))) mss_nil)
    (mss_one (ms_ret (me_var 4))))))))
abbrev s_do_check : Stmt := top 27
theorem sc_do_check : FnScope ["run", "frame", "statement", "truth"] ["run", "frame", "statement"] (defScope s_do_check) := ⟨rfl, rfl, rfl, by decide +kernel, rfl, by decide +kernel, by decide +kernel⟩
theorem ok_do_check {ca : Nat → Addr} {f : Addr} {fd : FuncData} (T : Txt K mg ca) (G_Run_fault : Fmm P w K mg base 21 (ca 5) "fault" ["self", "row", "kind", "variables"] (f_Run_fault ca)) (G_ask : Fnn P w K mg base 21 "ask" ["run", "frame", "statement"] (f_ask ca)) (F : Fun K "do_check" "do_check" s_do_check f fd) (hm : mg "do_check" = some (.ref f)) : Fnn P w K mg base 22 "do_check" ["run", "frame", "statement"] (f_do_check ca) := by
  refine fnn (k := 21) F hm sc_do_check (fun _ _ _ _ _ _ us hl => match us, hl with | [_, _, _], _ => rfl) (fun cdv A outer s H E hr => ?_)
  exact (mss_cons (ms_set 3 sc_do_check.nd (me_f G_ask (hr.mono (by decide)) (ma_cons (me_var 0) (ma_cons (me_var 1) (ma_cons (me_var 2) ma_nil)))))
    (mss_cons (ms_if (mt_cmp oIsN (me_var 3) me_non) (mss_one (ms_ret (me_meth T.k5 G_Run_fault (hr.mono (by decide)) (me_var 0) (ma_cons (me_ixV 2 oIx me_int) (ma_cons me_str (ma_cons (me_fld T.k6 T.n6_variables (me_var 1)) ma_nil)))))) mss_nil)
    (mss_cons (ms_if (mt_not (mt_truV 3)) (mss_one (ms_ret (me_meth T.k5 G_Run_fault (hr.mono (by decide)) (me_var 0) (ma_cons (me_ixV 2 oIx me_int) (ma_cons me_str (ma_cons (me_fld T.k6 T.n6_variables (me_var 1)) ma_nil)))))) mss_nil)
    (mss_one (ms_ret me_non)))))
abbrev s_do_result : Stmt := top 25
theorem sc_do_result : FnScope ["run", "frame", "statement", "value"] ["run", "frame", "statement"] (defScope s_do_result) := ⟨rfl, rfl, rfl, by decide +kernel, rfl, by decide +kernel, by decide +kernel⟩
theorem ok_do_result {ca : Nat → Addr} {f : Addr} {fd : FuncData} (T : Txt K mg ca) (G_value_of : Fnn P w K mg base 9 "value_of" ["expression", "variables"] (f_value_of 8)) (G_Run_fault : Fmm P w K mg base 21 (ca 5) "fault" ["self", "row", "kind", "variables"] (f_Run_fault ca)) (F : Fun K "do_result" "do_result" s_do_result f fd) (hm : mg "do_result" = some (.ref f)) : Fnn P w K mg base 22 "do_result" ["run", "frame", "statement"] (f_do_result ca) := by
  refine fnn (k := 21) F hm sc_do_result (fun _ _ _ _ _ _ us hl => match us, hl with | [_, _, _], _ => rfl) (fun cdv A outer s H E hr => ?_)
  exact (mss_cons (ms_set 3 sc_do_result.nd (me_f G_value_of (hr.mono (by decide)) (ma_cons (me_ixV 2 oIx me_int) (ma_cons (me_fld T.k6 T.n6_variables (me_var 1)) ma_nil))))
    (mss_cons (ms_if (mt_cmp oIsN (me_var 3) me_non) (mss_one (ms_ret (me_meth T.k5 G_Run_fault (hr.mono (by decide)) (me_var 0) (ma_cons (me_ixV 2 oIx me_int) (ma_cons me_str (ma_cons (me_fld T.k6 T.n6_variables (me_var 1)) ma_nil)))))) mss_nil)
    (mss_one (ms_ret (me_tup (ma_cons (me_ixV 2 oIx me_int) (ma_cons (me_var 3) ma_nil)))))))
abbrev s_do_plain : Stmt := top 30
theorem sc_do_plain : FnScope ["run", "frame", "statement", "kind"] ["run", "frame", "statement"] (defScope s_do_plain) := ⟨rfl, rfl, rfl, by decide +kernel, rfl, by decide +kernel, by decide +kernel⟩
theorem ok_do_plain {ca : Nat → Addr} {f : Addr} {fd : FuncData} (T : Txt K mg ca) (G_value_of : Fnn P w K mg base 9 "value_of" ["expression", "variables"] (f_value_of 8)) (G_Run_fault : Fmm P w K mg base 21 (ca 5) "fault" ["self", "row", "kind", "variables"] (f_Run_fault ca)) (G_store : Fnn P w K mg base 22 "store" ["run", "frame", "row", "name", "value"] (f_store ca)) (G_do_let : Fnn P w K mg base 23 "do_let" ["run", "frame", "statement"] (f_do_let ca)) (G_do_list : Fnn P w K mg base 22 "do_list" ["run", "frame", "statement"] (f_do_list ca)) (G_do_put : Fnn P w K mg base 22 "do_put" ["run", "frame", "statement"] (f_do_put ca)) (G_do_result : Fnn P w K mg base 22 "do_result" ["run", "frame", "statement"] (f_do_result ca)) (F : Fun K "do_plain" "do_plain" s_do_plain f fd) (hm : mg "do_plain" = some (.ref f)) : Fnn P w K mg base 24 "do_plain" ["run", "frame", "statement"] (f_do_plain ca) := by
  refine fnn (k := 23) F hm sc_do_plain (fun _ _ _ _ _ _ us hl => match us, hl with | [_, _, _], _ => rfl) (fun cdv A outer s H E hr => ?_)
  exact (mss_cons (ms_set 3 sc_do_plain.nd (me_ixV 2 oIx me_int))
    (mss_cons (ms_if (mt_cmp (oEq2 hr.units) (me_var 3) me_str) (mss_one (ms_ret (me_f G_do_let (hr.mono (by decide)) (ma_cons (me_var 0) (ma_cons (me_var 1) (ma_cons (me_var 2) ma_nil)))))) mss_nil)
    (mss_cons (ms_if (mt_cmp (oEq2 hr.units) (me_var 3) me_str) (mss_one (ms_ret (me_f G_do_list (hr.mono (by decide)) (ma_cons (me_var 0) (ma_cons (me_var 1) (ma_cons (me_var 2) ma_nil)))))) mss_nil)
    (mss_cons (ms_if (mt_cmp (oEq2 hr.units) (me_var 3) me_str) (mss_one (ms_ret (me_f G_store (hr.mono (by decide)) (ma_cons (me_var 0) (ma_cons (me_var 1) (ma_cons (me_ixV 2 oIx me_int) (ma_cons (me_ixV 2 oIx me_int) (ma_cons (me_f G_value_of (hr.mono (by decide)) (ma_cons (me_ixV 2 oIx me_int) (ma_cons (me_fld T.k6 T.n6_variables (me_var 1)) ma_nil))) ma_nil)))))))) mss_nil)
    (mss_cons (ms_if (mt_cmp (oEq2 hr.units) (me_var 3) me_str) (mss_one (ms_ret (me_f G_do_put (hr.mono (by decide)) (ma_cons (me_var 0) (ma_cons (me_var 1) (ma_cons (me_var 2) ma_nil)))))) mss_nil)
    (mss_cons (ms_if (mt_cmp (oEq2 hr.units) (me_var 3) me_str) (mss_one (ms_ret (me_meth T.k5 G_Run_fault (hr.mono (by decide)) (me_var 0) (ma_cons (me_ixV 2 oIx me_int) (ma_cons (me_ixV 2 oIx me_int) (ma_cons (me_fld T.k6 T.n6_variables (me_var 1)) ma_nil)))))) mss_nil)
    (mss_cons (ms_if (mt_cmp (oEq2 hr.units) (me_var 3) me_str) (mss_one (ms_ret me_non)) mss_nil)
    (mss_one (ms_ret (me_f G_do_result (hr.mono (by decide)) (ma_cons (me_var 0) (ma_cons (me_var 1) (ma_cons (me_var 2) ma_nil)))))))))))))
abbrev s_do_call : Stmt := top 24
theorem sc_do_call : FnScope ["run", "program", "frame", "statement", "function", "variables", "parameter", "argument", "result"] ["run", "program", "frame", "statement"] (defScope s_do_call) := ⟨rfl, rfl, rfl, by decide +kernel, rfl, by decide +kernel, by decide +kernel⟩
abbrev s_do_if : Stmt := top 28
theorem sc_do_if : FnScope ["run", "program", "frame", "statement", "truth"] ["run", "program", "frame", "statement"] (defScope s_do_if) := ⟨rfl, rfl, rfl, by decide +kernel, rfl, by decide +kernel, by decide +kernel⟩
abbrev s_do_while : Stmt := top 29
theorem sc_do_while : FnScope ["run", "program", "frame", "statement", "row", "turns", "truth", "result"] ["run", "program", "frame", "statement"] (defScope s_do_while) := ⟨rfl, rfl, rfl, by decide +kernel, rfl, by decide +kernel, by decide +kernel⟩
abbrev s_do_statement : Stmt := top 31
theorem sc_do_statement : FnScope ["run", "program", "frame", "statement"] ["run", "program", "frame", "statement"] (defScope s_do_statement) := ⟨rfl, rfl, rfl, by decide +kernel, rfl, by decide +kernel, by decide +kernel⟩
abbrev s_do_block : Stmt := top 32
theorem sc_do_block : FnScope ["run", "program", "frame", "block", "statement", "result"] ["run", "program", "frame", "block"] (defScope s_do_block) := ⟨rfl, rfl, rfl, by decide +kernel, rfl, by decide +kernel, by decide +kernel⟩
theorem ok_scc_do_call {ca : Nat → Addr} {f0 : Addr} {fd0 : FuncData} {f1 : Addr} {fd1 : FuncData} {f2 : Addr} {fd2 : FuncData} {f3 : Addr} {fd3 : FuncData} {f4 : Addr} {fd4 : FuncData} (T : Txt K mg ca) (G_find_function : Fnn P w K mg base 1 "find_function" ["functions", "name"] f_find_function) (G_value_of : Fnn P w K mg base 9 "value_of" ["expression", "variables"] (f_value_of 8)) (G_Run_happen : Fmm P w K mg base 20 (ca 5) "happen" ["self", "event", "variables"] (f_Run_happen ca)) (G_Run_fault : Fmm P w K mg base 21 (ca 5) "fault" ["self", "row", "kind", "variables"] (f_Run_fault ca)) (G_Frame___init__ : Fii P w K mg base 1 (ca 6) ["self", "variables"] (f_Frame___init__ ca)) (G_store : Fnn P w K mg base 22 "store" ["run", "frame", "row", "name", "value"] (f_store ca)) (G_ask : Fnn P w K mg base 21 "ask" ["run", "frame", "statement"] (f_ask ca)) (G_do_check : Fnn P w K mg base 22 "do_check" ["run", "frame", "statement"] (f_do_check ca)) (G_do_plain : Fnn P w K mg base 24 "do_plain" ["run", "frame", "statement"] (f_do_plain ca)) (F0 : Fun K "do_call" "do_call" s_do_call f0 fd0) (hm0 : mg "do_call" = some (.ref f0)) (F1 : Fun K "do_if" "do_if" s_do_if f1 fd1) (hm1 : mg "do_if" = some (.ref f1)) (F2 : Fun K "do_while" "do_while" s_do_while f2 fd2) (hm2 : mg "do_while" = some (.ref f2)) (F3 : Fun K "do_statement" "do_statement" s_do_statement f3 fd3) (hm3 : mg "do_statement" = some (.ref f3)) (F4 : Fun K "do_block" "do_block" s_do_block f4 fd4) (hm4 : mg "do_block" = some (.ref f4)) (n : Nat) : Fnn P w K mg base (25 + n) "do_call" ["run", "program", "frame", "statement"] (f_do_call ca n) ∧ Fnn P w K mg base (25 + n) "do_if" ["run", "program", "frame", "statement"] (f_do_if ca n) ∧ Fnn P w K mg base (25 + n) "do_while" ["run", "program", "frame", "statement"] (f_do_while ca n) ∧ Fnn P w K mg base (25 + n) "do_statement" ["run", "program", "frame", "statement"] (f_do_statement ca n) ∧ Fnn P w K mg base (25 + n) "do_block" ["run", "program", "frame", "block"] (f_do_block ca n) := by
  induction n with
  | zero => exact ⟨fnn (k := 24) F0 hm0 sc_do_call (fun _ _ _ _ _ _ us hl => match us, hl with | [_, _, _, _], _ => rfl) (fun cdv A outer s H E hr => mss_none), fnn (k := 24) F1 hm1 sc_do_if (fun _ _ _ _ _ _ us hl => match us, hl with | [_, _, _, _], _ => rfl) (fun cdv A outer s H E hr => mss_none), fnn (k := 24) F2 hm2 sc_do_while (fun _ _ _ _ _ _ us hl => match us, hl with | [_, _, _, _], _ => rfl) (fun cdv A outer s H E hr => mss_none), fnn (k := 24) F3 hm3 sc_do_statement (fun _ _ _ _ _ _ us hl => match us, hl with | [_, _, _, _], _ => rfl) (fun cdv A outer s H E hr => mss_none), fnn (k := 24) F4 hm4 sc_do_block (fun _ _ _ _ _ _ us hl => match us, hl with | [_, _, _, _], _ => rfl) (fun cdv A outer s H E hr => mss_none)⟩
  | succ n ih =>
    obtain ⟨G_rec_do_call, G_rec_do_if, G_rec_do_while, G_rec_do_statement, G_rec_do_block⟩ := ih
    refine ⟨fnn (k := 25 + n) F0 hm0 sc_do_call (fun _ _ _ _ _ _ us hl => match us, hl with | [_, _, _, _], _ => rfl) (fun cdv A outer s H E hr => ?_), fnn (k := 25 + n) F1 hm1 sc_do_if (fun _ _ _ _ _ _ us hl => match us, hl with | [_, _, _, _], _ => rfl) (fun cdv A outer s H E hr => ?_), fnn (k := 25 + n) F2 hm2 sc_do_while (fun _ _ _ _ _ _ us hl => match us, hl with | [_, _, _, _], _ => rfl) (fun cdv A outer s H E hr => ?_), fnn (k := 25 + n) F3 hm3 sc_do_statement (fun _ _ _ _ _ _ us hl => match us, hl with | [_, _, _, _], _ => rfl) (fun cdv A outer s H E hr => ?_), fnn (k := 25 + n) F4 hm4 sc_do_block (fun _ _ _ _ _ _ us hl => match us, hl with | [_, _, _, _], _ => rfl) (fun cdv A outer s H E hr => ?_)⟩
    · exact (mss_cons (ms_set 4 sc_do_call.nd (me_f G_find_function (hr.mono (by omega)) (ma_cons (me_fld T.k3 T.n3_functions (me_var 1)) (ma_cons (me_ixV 3 oIx me_int) ma_nil))))
    (mss_cons (ms_cell 5 sc_do_call.nd mf_dK)
    (mss_cons (ms_for rfl (mi_zip2 (by rfl) T.b_zip (me_ixV 4 oIx me_int) (me_ixV 3 oIx me_int)) (mg_tup (n := 2) rfl (mgs_cons (mg_name 6 sc_do_call.nd) (mgs_cons (mg_name 7 sc_do_call.nd) mgs_nil))) (mss_one (ms_asg (me_f G_value_of (hr.mono (by omega)) (ma_cons (me_var 7) (ma_cons (me_fld T.k6 T.n6_variables (me_var 2)) ma_nil))) (mg_subK (u1 hr) 5 (me_var 6)))))
    (mss_cons (ms_set 8 sc_do_call.nd (me_f G_rec_do_block (hr.mono (Nat.le_refl _)) (ma_cons (me_var 0) (ma_cons (me_var 1) (ma_cons (me_make G_Frame___init__ (hr.mono (by omega)) T.m6 (ma_cons (me_var 5) ma_nil)) (ma_cons (me_ixV 4 oIx me_int) ma_nil))))))
    (mss_cons (ms_if (mt_cmp oIsN (me_var 8) me_non) (mss_one (ms_set 8 sc_do_call.nd (me_tup (ma_cons me_str (ma_cons me_int ma_nil))))) mss_nil)
    (mss_cons (ms_if (mt_cmp (oNe2 hr.units) (me_ixV 8 oIx me_int) me_str) (mss_one (ms_ret (me_var 8))) mss_nil)
    (mss_one (ms_ret (me_f G_store (hr.mono (by omega)) (ma_cons (me_var 0) (ma_cons (me_var 2) (ma_cons (me_ixV 3 oIx me_int) (ma_cons (me_ixV 3 oIx me_int) (ma_cons (me_ixV 8 oIx me_int) ma_nil))))))))))))))
    · exact (mss_cons (ms_set 4 sc_do_if.nd (me_f G_ask (hr.mono (by omega)) (ma_cons (me_var 0) (ma_cons (me_var 2) (ma_cons (me_var 3) ma_nil)))))
    (mss_cons (ms_if (mt_cmp oIsN (me_var 4) me_non) (mss_one (ms_ret (me_meth T.k5 G_Run_fault (hr.mono (by omega)) (me_var 0) (ma_cons (me_ixV 3 oIx me_int) (ma_cons me_str (ma_cons (me_fld T.k6 T.n6_variables (me_var 2)) ma_nil)))))) mss_nil)
    (mss_cons (ms_if (mt_truV 4) (mss_one (ms_ret (me_f G_rec_do_block (hr.mono (Nat.le_refl _)) (ma_cons (me_var 0) (ma_cons (me_var 1) (ma_cons (me_var 2) (ma_cons (me_ixV 3 oIx me_int) ma_nil))))))) mss_nil)
    (mss_one (ms_ret (me_f G_rec_do_block (hr.mono (Nat.le_refl _)) (ma_cons (me_var 0) (ma_cons (me_var 1) (ma_cons (me_var 2) (ma_cons (me_ixV 3 oIx me_int) ma_nil))))))))))
    · exact (mss_cons (ms_set 4 sc_do_while.nd (me_ixV 3 oIx me_int))
    (mss_cons (ms_for rfl (mi_rg1 (by rfl) T.b_range (me_op oAdd (me_ixV 3 oIx me_int) me_int)) (mg_name 5 sc_do_while.nd) (mss_cons (ms_set 6 sc_do_while.nd (me_f G_ask (hr.mono (by omega)) (ma_cons (me_var 0) (ma_cons (me_var 2) (ma_cons (me_var 3) ma_nil)))))
    (mss_cons (ms_if (mt_cmp oIsN (me_var 6) me_non) (mss_one (ms_ret (me_meth T.k5 G_Run_fault (hr.mono (by omega)) (me_var 0) (ma_cons (me_var 4) (ma_cons me_str (ma_cons (me_fld T.k6 T.n6_variables (me_var 2)) ma_nil)))))) mss_nil)
    (mss_cons (ms_if (mt_not (mt_truV 6)) (mss_one (ms_ret me_non)) mss_nil)
    (mss_cons (ms_if (mt_cmp (oEq2 hr.units) (me_var 5) (me_ixV 3 oIx me_int)) (mss_one ms_break) mss_nil)
    (mss_cons (ms_expr (me_meth T.k5 G_Run_happen (hr.mono (by omega)) (me_var 0) (ma_cons (me_tup (ma_cons me_str (ma_cons (me_var 4) (ma_cons (me_op oAdd (me_var 5) me_int) ma_nil)))) (ma_cons (me_fld T.k6 T.n6_variables (me_var 2)) ma_nil))))
    (mss_cons (ms_set 7 sc_do_while.nd (me_f G_rec_do_block (hr.mono (Nat.le_refl _)) (ma_cons (me_var 0) (ma_cons (me_var 1) (ma_cons (me_var 2) (ma_cons (me_ixV 3 oIx me_int) ma_nil))))))
    (mss_one (ms_if (mt_cmp oNotN (me_var 7) me_non) (mss_one (ms_ret (me_var 7))) mss_nil)))))))))
    (mss_one (ms_ret (me_meth T.k5 G_Run_fault (hr.mono (by omega)) (me_var 0) (ma_cons (me_var 4) (ma_cons me_str (ma_cons (me_fld T.k6 T.n6_variables (me_var 2)) ma_nil))))))))
    · exact (mss_cons (ms_if (mt_cmp (oEq2 hr.units) (me_ixV 3 oIx me_int) me_str) (mss_one (ms_ret (me_f G_rec_do_while (hr.mono (Nat.le_refl _)) (ma_cons (me_var 0) (ma_cons (me_var 1) (ma_cons (me_var 2) (ma_cons (me_var 3) ma_nil))))))) mss_nil)
    (mss_cons (ms_if (mt_cmp (oEq2 hr.units) (me_ixV 3 oIx me_int) me_str) (mss_one (ms_ret (me_f G_rec_do_if (hr.mono (Nat.le_refl _)) (ma_cons (me_var 0) (ma_cons (me_var 1) (ma_cons (me_var 2) (ma_cons (me_var 3) ma_nil))))))) mss_nil)
    (mss_cons (ms_if (mt_cmp (oEq2 hr.units) (me_ixV 3 oIx me_int) me_str) (mss_one (ms_ret (me_f G_do_check (hr.mono (by omega)) (ma_cons (me_var 0) (ma_cons (me_var 2) (ma_cons (me_var 3) ma_nil)))))) mss_nil)
    (mss_cons (ms_expr (me_meth T.k5 G_Run_happen (hr.mono (by omega)) (me_var 0) (ma_cons (me_tup (ma_cons me_str (ma_cons (me_ixV 3 oIx me_int) ma_nil))) (ma_cons (me_fld T.k6 T.n6_variables (me_var 2)) ma_nil))))
    (mss_cons (ms_if (mt_cmp (oEq2 hr.units) (me_ixV 3 oIx me_int) me_str) (mss_one (ms_ret (me_f G_rec_do_call (hr.mono (Nat.le_refl _)) (ma_cons (me_var 0) (ma_cons (me_var 1) (ma_cons (me_var 2) (ma_cons (me_var 3) ma_nil))))))) mss_nil)
    (mss_one (ms_ret (me_f G_do_plain (hr.mono (by omega)) (ma_cons (me_var 0) (ma_cons (me_var 2) (ma_cons (me_var 3) ma_nil)))))))))))
    · exact (mss_cons (ms_for rfl (mi_seq (me_var 3)) (mg_name 4 sc_do_block.nd) (mss_cons (ms_set 5 sc_do_block.nd (me_f G_rec_do_statement (hr.mono (Nat.le_refl _)) (ma_cons (me_var 0) (ma_cons (me_var 1) (ma_cons (me_var 2) (ma_cons (me_var 4) ma_nil))))))
    (mss_one (ms_if (mt_cmp oNotN (me_var 5) me_non) (mss_one (ms_ret (me_var 5))) mss_nil))))
    (mss_one (ms_ret me_non)))
abbrev s_run_program : Stmt := top 33
theorem sc_run_program : FnScope ["program", "inputs", "place", "run", "outcome"] ["program", "inputs", "place"] (defScope s_run_program) := ⟨rfl, rfl, rfl, by decide +kernel, rfl, by decide +kernel, by decide +kernel⟩
theorem ok_run_program {ca : Nat → Addr} {f TT : Addr} {fd : FuncData} (T : Txt K mg ca) (G_Run___init__ : Fii P w K mg base 3 (ca 5) ["self", "place"] (f_Run___init__ ca)) (G_Frame___init__ : Fii P w K mg base 1 (ca 6) ["self", "variables"] (f_Frame___init__ ca)) (G_is_input : Fnn P w K mg base 3 "is_input" ["program", "inputs"] (f_is_input ca)) (G_input_variables : Fnn P w K mg base 1 "input_variables" ["program", "inputs"] (f_input_variables ca)) (G_do_block : Fnn P w K mg base 55 "do_block" ["run", "program", "frame", "block"] (f_do_block ca 30))  (F : Fun K "run_program" "run_program" s_run_program f fd) (FD : FunD K "run_program" "run_program" (defArgs s_run_program) (defBody s_run_program) (defScope s_run_program) [] [("place", .ref TT)] f fd) (hT : KNil K TT) (hm : mg "run_program" = some (.ref f)) : Fnxd P w K mg base ca 56 "run_program" ["program", "inputs", "place"] (f_run_program ca) [.tup []] := by
  refine fnxd (k := 55) F FD hT hm sc_run_program 2 rfl (fun D _ _ _ _ _ us ks hl hk => match us, hl, ks, hk with | [u0, u1], _, [_], _ => ⟨_, _, _, _, _, _, rfl, rfl, rfl⟩) (fun cdv A outer s H E hr => ?_)
  exact (mssx_cons (msx_if (mt_not (mt_tru (me_f G_is_input (hr.mono (by decide)) (ma_cons (me_var 0) (ma_cons (me_var 1) ma_nil))))) (mssx_one (msx_raiseT T.xt2 rfl)) mssx_nil)
    (mssx_cons (msx_lift (ms_set 3 sc_run_program.nd (me_make G_Run___init__ (hr.mono (by decide)) T.m5 (ma_cons (me_var 2) ma_nil))))
    (mssx_cons (msx_lift (ms_set 4 sc_run_program.nd (me_f G_do_block (hr.mono (by decide)) (ma_cons (me_var 3) (ma_cons (me_var 0) (ma_cons (me_make G_Frame___init__ (hr.mono (by decide)) T.m6 (ma_cons (me_f G_input_variables (hr.mono (by decide)) (ma_cons (me_var 0) (ma_cons (me_var 1) ma_nil))) ma_nil)) (ma_cons (me_fld T.k3 T.n3_body (me_var 0)) ma_nil)))))))
    (mssx_cons (msx_lift (ms_if (mt_cmp oNotN (me_var 4) me_non) (mss_one (ms_fld T.k5 T.n5_outcome (me_var 3) (me_var 4))) mss_nil))
    (mssx_one (msx_lift (ms_ret (me_var 3))))))))
abbrev s_law_draws : Stmt := top 35
theorem sc_law_draws : FnScope ["_law_script", "_law_many", "_law_rests", "_law_draws_here", "_law_k", "_law_cell", "_law_at", "_law_mixed"] ["_law_script", "_law_many"] (defScope s_law_draws) := ⟨rfl, rfl, rfl, by decide +kernel, rfl, by decide +kernel, by decide +kernel⟩
theorem ok_law_draws {ca : Nat → Addr} {f : Addr} {fd : FuncData} (T : Txt K mg ca)  (F : Fun K "_law_draws" "_law_draws" s_law_draws f fd) (hm : mg "_law_draws" = some (.ref f)) : Fnn P w K mg base 1 "_law_draws" ["_law_script", "_law_many"] f_law_draws := by
  refine fnn (k := 0) F hm sc_law_draws (fun _ _ _ _ _ _ us hl => match us, hl with | [_, _], _ => rfl) (fun cdv A outer s H E hr => ?_)
  exact (mss_cons (ms_ownLc 2 rfl sc_law_draws.nd (mi_seq (me_var 0)) (blkOk_by (own := [("_law_cell", 5)]) (N := ["_law_script", "_law_many", "_law_rests", "_law_draws_here", "_law_k", "_law_cell", "_law_at", "_law_mixed"]) (sc := defScope s_law_draws) (by decide +kernel)) (fun _ _ _ _ _ => (mgk_name 5 sc_law_draws.nd)) (fun _ _ _ _ _ => mts_nil) (fun _ _ _ _ _ => (me_callB cAbs (by rfl) T.b_abs (by decide +kernel) (me_callTV 5 cInt3 (by rfl) T.b_int (by decide +kernel)))) (sw_true rfl rfl rfl (by decide +kernel)))
    (mss_cons (ms_own 3 sc_law_draws.nd (mf_lst ma_nil))
    (mss_cons (ms_for rfl (mi_rg1 (by rfl) T.b_range (me_var 1)) (mg_name 4 sc_law_draws.nd) (mss_cons (ms_set 5 sc_law_draws.nd (me_var 4))
    (mss_cons (ms_if (mt_cmp oGt (me_callBV 0 cLen (by rfl) T.b_len PySem.boot_len) me_int) (mss_cons (ms_set 6 sc_law_draws.nd (me_op oMod (me_var 4) (me_callBV 0 cLen (by rfl) T.b_len PySem.boot_len)))
    (mss_cons (ms_set 5 sc_law_draws.nd (me_callT cInt3 (by rfl) T.b_int (by decide +kernel) (me_ixV 0 oIx (me_var 6))))
    (mss_one (ms_if (mt_w (mw_and (mt_cmp oGe (me_var 5) (me_op oPow me_int me_int)) (mw_and1 (mt_cmp oGt (me_ixV 2 oIx (me_var 6)) me_int)))) (mss_cons (ms_expr (me_app 3 (me_op oMod (me_callT cInt3 (by rfl) T.b_int (by decide +kernel) (me_ixV 2 oIx (me_var 6))) me_int)))
    (mss_cons (ms_asg (me_op oDiv (me_callT cInt3 (by rfl) T.b_int (by decide +kernel) (me_ixV 2 oIx (me_var 6))) me_int) (mg_sub 2 (me_var 6)))
    (mss_one ms_cont))) mss_nil)))) mss_nil)
    (mss_cons (ms_set 7 sc_law_draws.nd (me_op oMod (me_callT cInt3 (by rfl) T.b_int (by decide +kernel) (me_op oAdd (me_op oAdd (me_op oMul3 (me_var 5) me_int) (me_op oMul3 (me_var 4) me_int)) me_int)) me_int))
    (mss_cons (ms_set 7 sc_law_draws.nd (me_op oMod (me_callT cInt3 (by rfl) T.b_int (by decide +kernel) (me_op oAdd (me_op oDiv (me_op oMul3 (me_var 7) (me_var 7)) me_int) (me_var 7))) me_int))
    (mss_one (ms_expr (me_app 3 (me_op oMod (me_callT cInt3 (by rfl) T.b_int (by decide +kernel) (me_op oAdd (me_op oDiv (me_op oMul3 (me_var 7) (me_var 7)) me_int) (me_op oMul3 (me_var 4) me_int))) me_int)))))))))
    (mss_one (ms_ret (me_var 3))))))
abbrev s_law_take : Stmt := top 36
theorem sc_law_take : FnScope ["_law_hand", "_law_many", "_law_at", "_law_draws_here"] ["_law_hand", "_law_many"] (defScope s_law_take) := ⟨rfl, rfl, rfl, by decide +kernel, rfl, by decide +kernel, by decide +kernel⟩
theorem ok_law_take {ca : Nat → Addr} {f : Addr} {fd : FuncData} (T : Txt K mg ca)  (F : Fun K "_law_take" "_law_take" s_law_take f fd) (hm : mg "_law_take" = some (.ref f)) : Fnn P w K mg base 1 "_law_take" ["_law_hand", "_law_many"] f_law_take := by
  refine fnn (k := 0) F hm sc_law_take (fun _ _ _ _ _ _ us hl => match us, hl with | [_, _], _ => rfl) (fun cdv A outer s H E hr => ?_)
  exact (mss_cons (ms_set 2 sc_law_take.nd (me_ixV 0 oIx me_int))
    (mss_cons (ms_asg (me_op oAdd (me_var 2) me_int) (mg_sub 0 me_int))
    (mss_cons (ms_set 3 sc_law_take.nd (me_ixV 0 oIx me_int))
    (mss_cons (ms_if (mt_cmp oGe (me_var 2) (me_callBV 3 cLen (by rfl) T.b_len PySem.boot_len)) (mss_one (ms_ret me_int)) mss_nil)
    (mss_one (ms_ret (me_op oMod (me_op oDiv (me_callT cInt3 (by rfl) T.b_int (by decide +kernel) (me_ixV 3 oIx (me_var 2))) me_int) (me_var 1))))))))
abbrev s_law_same : Stmt := top 37
theorem sc_law_same : FnScope ["_law_found", "_law_expected", "_law_at"] ["_law_found", "_law_expected"] (defScope s_law_same) := ⟨rfl, rfl, rfl, by decide +kernel, rfl, by decide +kernel, by decide +kernel⟩
theorem ok_law_same {ca : Nat → Addr} {f : Addr} {fd : FuncData} (T : Txt K mg ca)  (F : Fun K "_law_same" "_law_same" s_law_same f fd) (hm : mg "_law_same" = some (.ref f)) (n : Nat) : Fnn P w K mg base (1 + n) "_law_same" ["_law_found", "_law_expected"] (f_law_same n) := by
  induction n with
  | zero => exact fnn (k := 0) F hm sc_law_same (fun _ _ _ _ _ _ us hl => match us, hl with | [_, _], _ => rfl) (fun cdv A outer s H E hr => mss_none)
  | succ n G_rec =>
    refine fnn (k := 1 + n) F hm sc_law_same (fun _ _ _ _ _ _ us hl => match us, hl with | [_, _], _ => rfl) (fun cdv A outer s H E hr => ?_)
    exact (mss_cons (ms_if (mt_tru (me_isiC (T := "tuple") (by rfl) T.b_isinstance (by rfl) T.b_tuple (by decide +kernel) (me_var 1))) (mss_cons (ms_if (mt_w (mw_or (mt_not (mt_tru (me_isiC (T := "tuple") (by rfl) T.b_isinstance (by rfl) T.b_tuple (by decide +kernel) (me_var 0)))) (mw_or1 (mt_cmp (oNe2 hr.units) (me_callBV 0 cLen (by rfl) T.b_len PySem.boot_len) (me_callBV 1 cLen (by rfl) T.b_len PySem.boot_len))))) (mss_one (ms_ret me_bl)) mss_nil)
    (mss_cons (ms_for rfl (mi_rg1 (by rfl) T.b_range (me_callBV 1 cLen (by rfl) T.b_len PySem.boot_len)) (mg_name 2 sc_law_same.nd) (mss_one (ms_if (mt_not (mt_tru (me_f G_rec (hr.mono (Nat.le_refl _)) (ma_cons (me_ixV 0 oIx (me_var 2)) (ma_cons (me_ixV 1 oIx (me_var 2)) ma_nil))))) (mss_one (ms_ret me_bl)) mss_nil)))
    (mss_one (ms_ret me_bl)))) mss_nil)
    (mss_cons (ms_if (mt_tru (me_isiC (T := "str") (by rfl) T.b_isinstance (by rfl) T.b_str (by decide +kernel) (me_var 1))) (mss_one (ms_ret (me_and (me_isiC (T := "str") (by rfl) T.b_isinstance (by rfl) T.b_str (by decide +kernel) (me_var 0)) (me_one (me_cmp (oEq2 hr.units) (me_var 0) (me_var 1)))))) mss_nil)
    (mss_cons (ms_if (mt_cmp oIsN (me_var 1) me_non) (mss_one (ms_ret (me_cmp oIsN (me_var 0) me_non))) mss_nil)
    (mss_one (ms_ret (me_and (me_isiC (T := "int") (by rfl) T.b_isinstance (by rfl) T.b_int (by decide +kernel) (me_var 0)) (me_and (me_not (me_isiC (T := "bool") (by rfl) T.b_isinstance (by rfl) T.b_bool (by decide +kernel) (me_var 0))) (me_one (me_cmp (oEq2 hr.units) (me_var 0) (me_var 1))))))))))
abbrev s_law_program : Stmt := top 38
theorem sc_law_program : FnScope ["_law_draws_here", "_law_first_here", "_law_rows", "_law_check", "_law_more", "_law_body"] ["_law_draws_here"] (defScope s_law_program) := ⟨rfl, rfl, rfl, by decide +kernel, rfl, by decide +kernel, by decide +kernel⟩
theorem ok_law_program {ca : Nat → Addr} {f : Addr} {fd : FuncData} (T : Txt K mg ca) (G_Program___init__ : Fii P w K mg base 1 (ca 3) ["self", "inputs", "functions", "body"] (f_Program___init__ ca)) (F : Fun K "_law_program" "_law_program" s_law_program f fd) (hm : mg "_law_program" = some (.ref f)) : Fnn P w K mg base 3 "_law_program" ["_law_draws_here"] (f_law_program ca) := by
  refine fnn (k := 2) F hm sc_law_program (fun _ _ _ _ _ _ us hl => match us, hl with | [_], _ => rfl) (fun cdv A outer s H E hr => ?_)
  exact (mss_cons (ms_set 1 sc_law_program.nd (me_tup (ma_cons me_str (ma_cons me_int (ma_cons (me_tup (ma_cons me_str (ma_cons me_str (ma_cons (me_tup (ma_cons me_str (ma_cons me_str (ma_cons me_int ma_nil)))) (ma_cons (me_tup (ma_cons me_str (ma_cons (me_ixV 0 oIx me_int) ma_nil))) ma_nil))))) (ma_cons (me_tup (ma_cons (me_tup (ma_cons me_str (ma_cons me_int (ma_cons (me_tup (ma_cons me_str (ma_cons me_str (ma_cons (me_ixV 0 oIx me_int) ma_nil)))) ma_nil)))) ma_nil)) (ma_cons (me_tup ma_nil) ma_nil)))))))
    (mss_cons (ms_set 2 sc_law_program.nd (me_tup (ma_cons (me_tup (ma_cons me_str (ma_cons me_int (ma_cons me_str (ma_cons me_non (ma_cons me_non (ma_cons (me_tup (ma_cons me_str (ma_cons me_str (ma_cons me_int ma_nil)))) ma_nil))))))) (ma_cons (me_tup (ma_cons me_str (ma_cons me_int (ma_cons me_str (ma_cons (me_tup (ma_cons me_str (ma_cons me_str (ma_cons (me_ixV 0 oIx me_int) ma_nil)))) ma_nil))))) (ma_cons (me_var 1) ma_nil)))))
    (mss_cons (ms_set 3 sc_law_program.nd (me_tup (ma_cons me_str (ma_cons me_int (ma_cons (me_tup (ma_cons me_str (ma_cons me_str (ma_cons (me_tup (ma_cons me_str (ma_cons me_str (ma_cons me_int ma_nil)))) (ma_cons (me_tup (ma_cons me_str (ma_cons (me_ixV 0 oIx me_int) ma_nil))) ma_nil))))) ma_nil)))))
    (mss_cons (ms_set 4 sc_law_program.nd (me_tup (ma_cons (me_tup (ma_cons me_str (ma_cons me_int (ma_cons me_str (ma_cons me_str (ma_cons (me_tup (ma_cons (me_tup (ma_cons me_str (ma_cons me_str (ma_cons me_int ma_nil)))) ma_nil)) ma_nil)))))) (ma_cons (me_var 3) (ma_cons (me_tup (ma_cons me_str (ma_cons me_int (ma_cons (me_tup (ma_cons me_str (ma_cons me_str (ma_cons me_int ma_nil)))) ma_nil)))) ma_nil)))))
    (mss_cons (ms_own 5 sc_law_program.nd (mf_lst (ma_cons (me_tup (ma_cons me_str (ma_cons me_int (ma_cons me_str (ma_cons me_non (ma_cons me_non (ma_cons (me_tup (ma_cons me_str (ma_cons (me_ixV 0 oIx me_int) ma_nil))) ma_nil))))))) (ma_cons (me_tup (ma_cons me_str (ma_cons me_int (ma_cons me_str (ma_cons (me_ixV 0 oIx me_int) (ma_cons (me_ixV 0 oIx me_int) (ma_cons (me_tup (ma_cons me_str (ma_cons me_str (ma_cons me_int ma_nil)))) ma_nil))))))) ma_nil))))
    (mss_cons (ms_expr (me_app 5 (me_tup (ma_cons me_str (ma_cons me_int (ma_cons me_str (ma_cons me_str (ma_cons (me_tup (ma_cons (me_tup (ma_cons me_str (ma_cons me_str (ma_cons me_int ma_nil)))) ma_nil)) ma_nil))))))))
    (mss_cons (ms_expr (me_app 5 (me_tup (ma_cons me_str (ma_cons me_int (ma_cons me_str (ma_cons me_str (ma_cons (me_tup (ma_cons (me_tup (ma_cons me_str (ma_cons me_str (ma_cons me_int ma_nil)))) (ma_cons (me_tup (ma_cons me_str (ma_cons me_str (ma_cons me_int ma_nil)))) ma_nil))) ma_nil))))))))
    (mss_cons (ms_expr (me_app 5 (me_tup (ma_cons me_str (ma_cons me_int (ma_cons me_str (ma_cons (me_tup (ma_cons me_str (ma_cons me_str (ma_cons (me_neg me_int) ma_nil)))) ma_nil)))))))
    (mss_cons (ms_expr (me_app 5 (me_tup (ma_cons me_str (ma_cons me_int (ma_cons (me_tup (ma_cons me_str (ma_cons (me_ix oIx (me_new (mf_lst (ma_cons me_str (ma_cons me_str (ma_cons me_str (ma_cons me_str ma_nil)))))) (me_ixV 0 oIx me_int)) (ma_cons me_int ma_nil)))) ma_nil))))))
    (mss_one (ms_ret (me_make G_Program___init__ (hr.mono (by decide)) T.m3 (ma_cons (me_tup (ma_cons (me_tup (ma_cons me_str (ma_cons me_int (ma_cons (me_neg me_int) (ma_cons me_int ma_nil))))) (ma_cons (me_tup (ma_cons me_str (ma_cons me_int (ma_cons (me_neg me_int) (ma_cons me_int ma_nil))))) ma_nil))) (ma_cons (me_tup (ma_cons (me_tup (ma_cons me_int (ma_cons me_str (ma_cons (me_tup (ma_cons me_str ma_nil)) (ma_cons (me_var 2) ma_nil))))) (ma_cons (me_tup (ma_cons me_int (ma_cons me_str (ma_cons (me_tup (ma_cons me_str (ma_cons me_str ma_nil))) (ma_cons (me_var 4) ma_nil))))) ma_nil))) (ma_cons (me_callTV 5 cTuple (by rfl) T.b_tuple (by decide +kernel)) ma_nil)))))))))))))))
abbrev s_law_first : Stmt := top 39
theorem sc_law_first : FnScope ["_law_events", "_law_draws_here", "_law_value"] ["_law_events", "_law_draws_here", "_law_value"] (defScope s_law_first) := ⟨rfl, rfl, rfl, by decide +kernel, rfl, by decide +kernel, by decide +kernel⟩
theorem ok_law_first {ca : Nat → Addr} {f : Addr} {fd : FuncData} (T : Txt K mg ca)  (F : Fun K "_law_first" "_law_first" s_law_first f fd) (hm : mg "_law_first" = some (.ref f)) : Fnn P w K mg base 1 "_law_first" ["_law_events", "_law_draws_here", "_law_value"] f_law_first := by
  refine fnn (k := 0) F hm sc_law_first (fun _ _ _ _ _ _ us hl => match us, hl with | [_, _, _], _ => rfl) (fun cdv A outer s H E hr => ?_)
  exact (mss_cons (ms_set 2 sc_law_first.nd (me_op oAdd (me_op oAdd (me_var 2) me_int) (me_ixV 1 oIx me_int)))
    (mss_cons (ms_expr (me_app 0 (me_tup (ma_cons me_str (ma_cons me_int ma_nil)))))
    (mss_cons (ms_expr (me_app 0 (me_tup (ma_cons me_str (ma_cons me_int ma_nil)))))
    (mss_cons (ms_expr (me_app 0 (me_tup (ma_cons me_str (ma_cons me_int ma_nil)))))
    (mss_cons (ms_if (mt_cmp oLt (me_var 2) (me_ixV 1 oIx me_int)) (mss_cons (ms_expr (me_app 0 (me_tup (ma_cons me_str (ma_cons me_int ma_nil)))))
    (mss_cons (ms_expr (me_app 0 (me_tup (ma_cons me_str (ma_cons me_int ma_nil)))))
    (mss_one (ms_ret (me_op oAdd (me_var 2) (me_ixV 1 oIx me_int)))))) mss_nil)
    (mss_cons (ms_expr (me_app 0 (me_tup (ma_cons me_str (ma_cons me_int ma_nil)))))
    (mss_one (ms_ret me_int))))))))
abbrev s_law_second : Stmt := top 40
theorem sc_law_second : FnScope ["_law_events", "_law_draws_here", "_law_value"] ["_law_events", "_law_draws_here", "_law_value"] (defScope s_law_second) := ⟨rfl, rfl, rfl, by decide +kernel, rfl, by decide +kernel, by decide +kernel⟩
theorem ok_law_second {ca : Nat → Addr} {f : Addr} {fd : FuncData} (T : Txt K mg ca) (G_law_first : Fnn P w K mg base 1 "_law_first" ["_law_events", "_law_draws_here", "_law_value"] f_law_first) (F : Fun K "_law_second" "_law_second" s_law_second f fd) (hm : mg "_law_second" = some (.ref f)) : Fnn P w K mg base 2 "_law_second" ["_law_events", "_law_draws_here", "_law_value"] f_law_second := by
  refine fnn (k := 1) F hm sc_law_second (fun _ _ _ _ _ _ us hl => match us, hl with | [_, _, _], _ => rfl) (fun cdv A outer s H E hr => ?_)
  exact (mss_cons (ms_expr (me_app 0 (me_tup (ma_cons me_str (ma_cons me_int ma_nil)))))
    (mss_cons (ms_set 2 sc_law_second.nd (me_f G_law_first (hr.mono (by decide)) (ma_cons (me_var 0) (ma_cons (me_var 1) (ma_cons (me_var 2) ma_nil)))))
    (mss_cons (ms_expr (me_app 0 (me_tup (ma_cons me_str (ma_cons me_int ma_nil)))))
    (mss_cons (ms_if (mt_cmp oLe (me_var 2) (me_ixV 1 oIx me_int)) (mss_cons (ms_expr (me_app 0 (me_tup (ma_cons me_str (ma_cons me_int ma_nil)))))
    (mss_cons (ms_expr (me_app 0 (me_tup (ma_cons me_str (ma_cons me_int ma_nil)))))
    (mss_one (ms_ret (me_op oAdd (me_var 2) me_int))))) mss_nil)
    (mss_cons (ms_expr (me_app 0 (me_tup (ma_cons me_str (ma_cons me_int ma_nil)))))
    (mss_cons (ms_expr (me_app 0 (me_tup (ma_cons me_str (ma_cons me_int (ma_cons me_str ma_nil))))))
    (mss_one (ms_ret me_non))))))))
abbrev s_law_steps : Stmt := top 41
theorem sc_law_steps : FnScope ["_law_draws_here", "_law_a", "_law_b", "_law_events", "_law_r", "_law_n"] ["_law_draws_here", "_law_a", "_law_b"] (defScope s_law_steps) := ⟨rfl, rfl, rfl, by decide +kernel, rfl, by decide +kernel, by decide +kernel⟩
theorem ok_law_steps {ca : Nat → Addr} {f : Addr} {fd : FuncData} (T : Txt K mg ca) (G_law_first : Fnn P w K mg base 1 "_law_first" ["_law_events", "_law_draws_here", "_law_value"] f_law_first) (G_law_second : Fnn P w K mg base 2 "_law_second" ["_law_events", "_law_draws_here", "_law_value"] f_law_second) (F : Fun K "_law_steps" "_law_steps" s_law_steps f fd) (hm : mg "_law_steps" = some (.ref f)) : Fnn P w K mg base 3 "_law_steps" ["_law_draws_here", "_law_a", "_law_b"] f_law_steps := by
  refine fnn (k := 2) F hm sc_law_steps (fun _ _ _ _ _ _ us hl => match us, hl with | [_, _, _], _ => rfl) (fun cdv A outer s H E hr => ?_)
  exact (mss_cons (ms_cell 3 sc_law_steps.nd (mf_lst (ma_cons (me_tup (ma_cons me_str (ma_cons me_int ma_nil))) (ma_cons (me_tup (ma_cons me_str (ma_cons me_int ma_nil))) ma_nil))))
    (mss_cons (ms_if (mt_w (mw_or (mt_cmp oLt (me_var 2) (me_ixV 0 oIx me_int)) (mw_or1 (mt_cmp oGt (me_var 2) (me_ixV 0 oIx me_int))))) (mss_cons (ms_expr (me_app 3 (me_tup (ma_cons me_str (ma_cons me_int (ma_cons me_str ma_nil))))))
    (mss_one (ms_ret (me_new (mf_lst (ma_cons (me_var 3) (ma_cons (me_tup (ma_cons me_str (ma_cons me_int (ma_cons me_str ma_nil)))) ma_nil))))))) mss_nil)
    (mss_cons (ms_expr (me_app 3 (me_tup (ma_cons me_str (ma_cons me_int ma_nil)))))
    (mss_cons (ms_set 4 sc_law_steps.nd (me_f G_law_first (hr.mono (by decide)) (ma_cons (me_var 3) (ma_cons (me_var 0) (ma_cons (me_var 1) ma_nil)))))
    (mss_cons (ms_if (mt_w (mw_or (mt_cmp oLt (me_var 4) (me_ixV 0 oIx me_int)) (mw_or1 (mt_cmp oGt (me_var 4) (me_ixV 0 oIx me_int))))) (mss_cons (ms_expr (me_app 3 (me_tup (ma_cons me_str (ma_cons me_int (ma_cons me_str ma_nil))))))
    (mss_one (ms_ret (me_new (mf_lst (ma_cons (me_var 3) (ma_cons (me_tup (ma_cons me_str (ma_cons me_int (ma_cons me_str ma_nil)))) ma_nil))))))) mss_nil)
    (mss_cons (ms_expr (me_app 3 (me_tup (ma_cons me_str (ma_cons me_int ma_nil)))))
    (mss_cons (ms_set 5 sc_law_steps.nd (me_f G_law_second (hr.mono (by decide)) (ma_cons (me_var 3) (ma_cons (me_var 0) (ma_cons (me_var 4) ma_nil)))))
    (mss_cons (ms_if (mt_cmp oIsN (me_var 5) me_non) (mss_one (ms_ret (me_new (mf_lst (ma_cons (me_var 3) (ma_cons (me_tup (ma_cons me_str (ma_cons me_int (ma_cons me_str ma_nil)))) ma_nil)))))) mss_nil)
    (mss_cons (ms_expr (me_app 3 (me_tup (ma_cons me_str (ma_cons me_int ma_nil)))))
    (mss_cons (ms_set 4 sc_law_steps.nd (me_op oSub (me_var 5) me_int))
    (mss_cons (ms_if (mt_w (mw_or (mt_cmp oLt (me_var 4) (me_ixV 0 oIx me_int)) (mw_or1 (mt_cmp oGt (me_var 4) (me_ixV 0 oIx me_int))))) (mss_cons (ms_expr (me_app 3 (me_tup (ma_cons me_str (ma_cons me_int (ma_cons me_str ma_nil))))))
    (mss_one (ms_ret (me_new (mf_lst (ma_cons (me_var 3) (ma_cons (me_tup (ma_cons me_str (ma_cons me_int (ma_cons me_str ma_nil)))) ma_nil))))))) mss_nil)
    (mss_cons (ms_expr (me_app 3 (me_tup (ma_cons me_str (ma_cons me_int ma_nil)))))
    (mss_one (ms_ret (me_new (mf_lst (ma_cons (me_var 3) (ma_cons (me_tup (ma_cons me_str (ma_cons (me_ix oIx (me_new (mf_lst (ma_cons (me_var 1) (ma_cons (me_var 2) (ma_cons (me_var 5) (ma_cons (me_var 4) ma_nil)))))) (me_ixV 0 oIx me_int)) ma_nil))) ma_nil))))))))))))))))))
abbrev s_law_told : Stmt := top 42
theorem sc_law_told : FnScope ["_law_program_here", "_law_inputs"] ["_law_program_here", "_law_inputs"] (defScope s_law_told) := ⟨rfl, rfl, rfl, by decide +kernel, rfl, by decide +kernel, by decide +kernel⟩
theorem okx_law_told {ca : Nat → Addr} {f : Addr} {fd : FuncData} (T : Txt K mg ca) (G_run_program : Fnxd P w K mg base ca 56 "run_program" ["program", "inputs", "place"] (f_run_program ca) [.tup []])  (F : Fun K "_law_told" "_law_told" s_law_told f fd) (hm : mg "_law_told" = some (.ref f)) : Fnx P w K mg base ca 57 "_law_told" ["_law_program_here", "_law_inputs"] (fnX 2 (b_law_told ca)) := by
  refine fnnx (k := 56) F hm sc_law_told (fun _ _ _ _ _ _ us hl => match us, hl with | [_, _], _ => rfl) (fun cdv A outer s H E hr => ?_)
  exact (mssx_cons (msx_tryOnly rfl rfl ⟨rfl, by decide, .inl T.m2⟩ (tab_cons (P := fun j b => PySem.W.exmOne K (.ref (ca j)) (.ref (ca 2)) = some b) T.xm2_2 tab_nil) (fun _ _ => (mssx_one (msx_expr (mex_fd G_run_program (hr.mono (by decide)) (ma_cons (me_var 0) (ma_cons (me_var 1) ma_nil)))))) (mh_plain fun _ _ => (mss_one (ms_ret me_str))))
    (mssx_one (msx_lift (ms_ret me_str))))
theorem ok_law_told {ca : Nat → Addr} {f : Addr} {fd : FuncData} (T : Txt K mg ca) (G_run_program : Fnxd P w K mg base ca 56 "run_program" ["program", "inputs", "place"] (f_run_program ca) [.tup []])  (F : Fun K "_law_told" "_law_told" s_law_told f fd) (hm : mg "_law_told" = some (.ref f)) : Fnn P w K mg base 57 "_law_told" ["_law_program_here", "_law_inputs"] (f_law_told ca) := fnn_noX (okx_law_told T G_run_program  F hm)
abbrev s_law_base : Stmt := top 43
theorem sc_law_base : FnScope ["_law_program_here", "_law_inputs", "e"] ["_law_program_here", "_law_inputs"] (defScope s_law_base) := ⟨rfl, rfl, rfl, by decide +kernel, rfl, by decide +kernel, by decide +kernel⟩
theorem okx_law_base {ca : Nat → Addr} {f : Addr} {fd : FuncData} (T : Txt K mg ca) (G_run_program : Fnxd P w K mg base ca 56 "run_program" ["program", "inputs", "place"] (f_run_program ca) [.tup []])  (F : Fun K "_law_base" "_law_base" s_law_base f fd) (hm : mg "_law_base" = some (.ref f)) : Fnx P w K mg base ca 57 "_law_base" ["_law_program_here", "_law_inputs"] (fnX 3 (b_law_base ca)) := by
  refine fnnx (k := 56) F hm sc_law_base (fun _ _ _ _ _ _ us hl => match us, hl with | [_, _], _ => rfl) (fun cdv A outer s H E hr => ?_)
  exact (mssx_cons (msx_tryAs (i := 2) rfl rfl sc_law_base.nd rfl rfl ⟨rfl, by decide, .inl T.m0⟩ (tab_cons (P := fun j b => PySem.W.exmOne K (.ref (ca j)) (.ref (ca 0)) = some b) T.xm2_0 tab_nil) (fun _ _ => (mssx_one (msx_expr (mex_fd G_run_program (hr.mono (by decide)) (ma_cons (me_var 0) (ma_cons (me_var 1) ma_nil)))))) (hss_one (hs_ret (hv_and (hv_is (m := tb [(2, true)]) (v := .ref (ca 2)) (u := .ref (ca 2)) (tab_cons (P := fun j b => ExcC K (ca j) ∧ PySem.W.kitOne K (.ref (ca j)) (.ref (ca 2)) = some b) ⟨T.xh2, T.ki2_2⟩ tab_nil) (.own _) (fun _ _ => pe_glob rfl T.m2 rfl) T.b_isinstance) (hv_and (hv_not (hv_is (m := tb [(2, false)]) (v := .ref (ca 1)) (u := .ref (ca 1)) (tab_cons (P := fun j b => ExcC K (ca j) ∧ PySem.W.kitOne K (.ref (ca j)) (.ref (ca 1)) = some b) ⟨T.xh2, T.ki2_1⟩ tab_nil) (.own _) (fun _ _ => pe_glob rfl T.m1 rfl) T.b_isinstance)) (hv_one (hv_is (m := tb [(2, true)]) (v := .ty "ValueError") (u := .type "ValueError") (tab_cons (P := fun j b => ExcC K (ca j) ∧ PySem.W.kitOne K (.ref (ca j)) (.type "ValueError") = some b) ⟨T.xh2, T.kb2_ValueError⟩ tab_nil) (.ty _) (fun _ _ => pe_bltn rfl T.b_ValueError (by decide +kernel) rfl) T.b_isinstance)))))))
    (mssx_one (msx_lift (ms_ret me_bl))))
theorem ok_law_base {ca : Nat → Addr} {f : Addr} {fd : FuncData} (T : Txt K mg ca) (G_run_program : Fnxd P w K mg base ca 56 "run_program" ["program", "inputs", "place"] (f_run_program ca) [.tup []])  (F : Fun K "_law_base" "_law_base" s_law_base f fd) (hm : mg "_law_base" = some (.ref f)) : Fnn P w K mg base 57 "_law_base" ["_law_program_here", "_law_inputs"] (f_law_base ca) := fnn_noX (okx_law_base T G_run_program  F hm)
abbrev s_law : Stmt := top 44
theorem sc_law : FnScope ["_law_script", "_law_hand", "_law_draws_here", "_law_low", "_law_program_here", "_law_a", "_law_b", "_law_step", "_law_run", "_law_due", "_law_wrong", "_law_at", "_law_one"] ["_law_script"] (defScope s_law) := ⟨rfl, rfl, rfl, by decide +kernel, rfl, by decide +kernel, by decide +kernel⟩
theorem ok_law {ca : Nat → Addr} {f : Addr} {fd : FuncData} (T : Txt K mg ca) (G_run_program : Fnxd P w K mg base ca 56 "run_program" ["program", "inputs", "place"] (f_run_program ca) [.tup []]) (G_law_draws : Fnn P w K mg base 1 "_law_draws" ["_law_script", "_law_many"] f_law_draws) (G_law_take : Fnn P w K mg base 1 "_law_take" ["_law_hand", "_law_many"] f_law_take) (G_law_same : Fnn P w K mg base 9 "_law_same" ["_law_found", "_law_expected"] (f_law_same 8)) (G_law_program : Fnn P w K mg base 3 "_law_program" ["_law_draws_here"] (f_law_program ca)) (G_law_steps : Fnn P w K mg base 3 "_law_steps" ["_law_draws_here", "_law_a", "_law_b"] f_law_steps) (G_law_told : Fnn P w K mg base 57 "_law_told" ["_law_program_here", "_law_inputs"] (f_law_told ca)) (G_law_base : Fnn P w K mg base 57 "_law_base" ["_law_program_here", "_law_inputs"] (f_law_base ca)) (F : Fun K "law" "law" s_law f fd) (hm : mg "law" = some (.ref f)) : Fnn P w K mg base 58 "law" ["_law_script"] (f_law ca) := by
  refine fnn (k := 57) F hm sc_law (fun _ _ _ _ _ _ us hl => match us, hl with | [_], _ => rfl) (fun cdv A outer s H E hr => ?_)
  exact (mss_cons (ms_cell 1 sc_law.nd (mf_lst (ma_cons (me_f G_law_draws (hr.mono (by decide)) (ma_cons (me_var 0) (ma_cons me_int ma_nil))) (ma_cons me_int ma_nil))))
    (mss_cons (ms_own 2 sc_law.nd (mf_lst (ma_cons (me_op oSub (me_f G_law_take (hr.mono (by decide)) (ma_cons (me_var 1) (ma_cons me_int ma_nil))) me_int) (ma_cons (me_op oSub (me_f G_law_take (hr.mono (by decide)) (ma_cons (me_var 1) (ma_cons me_int ma_nil))) me_int) (ma_cons (me_op oSub (me_f G_law_take (hr.mono (by decide)) (ma_cons (me_var 1) (ma_cons me_int ma_nil))) me_int) (ma_cons (me_op oSub (me_f G_law_take (hr.mono (by decide)) (ma_cons (me_var 1) (ma_cons me_int ma_nil))) me_int) ma_nil))))))
    (mss_cons (ms_expr (me_app 2 (me_f G_law_take (hr.mono (by decide)) (ma_cons (me_var 1) (ma_cons me_int ma_nil)))))
    (mss_cons (ms_set 3 sc_law.nd (me_ix oIx (me_new (mf_lst (ma_cons (me_neg me_int) (ma_cons (me_op oAdd (me_neg me_int) (me_f G_law_take (hr.mono (by decide)) (ma_cons (me_var 1) (ma_cons me_int ma_nil)))) (ma_cons (me_neg me_int) ma_nil))))) (me_f G_law_take (hr.mono (by decide)) (ma_cons (me_var 1) (ma_cons me_int ma_nil)))))
    (mss_cons (ms_set 2 sc_law.nd (me_opLv 2 oAdd (me_new (mf_lst (ma_cons (me_var 3) (ma_cons (me_op oAdd (me_var 3) (me_ix oIx (me_new (mf_lst (ma_cons me_int (ma_cons (me_f G_law_take (hr.mono (by decide)) (ma_cons (me_var 1) (ma_cons me_int ma_nil))) (ma_cons me_int ma_nil))))) (me_f G_law_take (hr.mono (by decide)) (ma_cons (me_var 1) (ma_cons me_int ma_nil))))) (ma_cons (me_f G_law_take (hr.mono (by decide)) (ma_cons (me_var 1) (ma_cons me_int ma_nil))) ma_nil)))))))
    (mss_cons (ms_set 4 sc_law.nd (me_f G_law_program (hr.mono (by decide)) (ma_cons (me_var 2) ma_nil)))
    (mss_cons (ms_set 5 sc_law.nd (me_op oSub (me_f G_law_take (hr.mono (by decide)) (ma_cons (me_var 1) (ma_cons me_int ma_nil))) me_int))
    (mss_cons (ms_set 6 sc_law.nd (me_callBs (cMax2 rfl) (by rfl) T.b_max (by decide +kernel) (ma_cons (me_neg me_int) (ma_cons (me_callBs (cMin2 rfl) (by rfl) T.b_min (by decide +kernel) (ma_cons me_int (ma_cons (me_callT cInt3 (by rfl) T.b_int (by decide +kernel) (me_op oSub (me_op oAdd (me_var 3) (me_f G_law_take (hr.mono (by decide)) (ma_cons (me_var 1) (ma_cons me_int ma_nil)))) me_int)) ma_nil))) ma_nil))))
    (mss_cons (ms_for rfl (mi_rg1 (by rfl) T.b_range me_int) (mg_name 7 sc_law.nd) (mss_cons (ms_set 8 sc_law.nd (me_fd (fnd_noX G_run_program) (hr.mono (by decide)) (ma_cons (me_var 4) (ma_cons (me_new (mf_lst (ma_cons (me_var 5) (ma_cons (me_var 6) ma_nil)))) ma_nil))))
    (mss_cons (ms_set 9 sc_law.nd (me_f G_law_steps (hr.mono (by decide)) (ma_cons (me_var 2) (ma_cons (me_var 5) (ma_cons (me_var 6) ma_nil)))))
    (mss_cons (ms_if (mt_w (mw_or (mt_not (mt_tru (me_isiC (T := "list") (by rfl) T.b_isinstance (by rfl) T.b_list (by decide +kernel) (me_fld T.k5 T.n5_events (me_var 8))))) (mw_or1 (mt_not (mt_tru (me_f G_law_same (hr.mono (by decide)) (ma_cons (me_callT cTuple (by rfl) T.b_tuple (by decide +kernel) (me_fld T.k5 T.n5_events (me_var 8))) (ma_cons (me_callT cTuple (by rfl) T.b_tuple (by decide +kernel) (me_ixV 9 oIx me_int)) ma_nil)))))))) (mss_one (ms_ret me_bl)) mss_nil)
    (mss_cons (ms_if (mt_not (mt_tru (me_f G_law_same (hr.mono (by decide)) (ma_cons (me_fld T.k5 T.n5_outcome (me_var 8)) (ma_cons (me_ixV 9 oIx me_int) ma_nil))))) (mss_one (ms_ret me_bl)) mss_nil)
    (mss_cons (ms_set 5 sc_law.nd (me_ix oIx (me_new (mf_lst (ma_cons me_int (ma_cons (me_neg me_int) ma_nil)))) (me_f G_law_take (hr.mono (by decide)) (ma_cons (me_var 1) (ma_cons me_int ma_nil)))))
    (mss_one (ms_set 6 sc_law.nd (me_ix oIx (me_new (mf_lst (ma_cons me_int (ma_cons (me_neg me_int) ma_nil)))) (me_f G_law_take (hr.mono (by decide)) (ma_cons (me_var 1) (ma_cons me_int ma_nil))))))))))))
    (mss_cons (ms_set 10 sc_law.nd (me_new (mf_lst (ma_cons (me_new (mf_lst (ma_cons (me_var 5) ma_nil))) (ma_cons (me_new (mf_lst (ma_cons (me_var 5) (ma_cons (me_var 6) (ma_cons me_int ma_nil))))) (ma_cons (me_new (mf_lst ma_nil)) (ma_cons (me_new (mf_lst (ma_cons (me_var 5) (ma_cons me_int ma_nil)))) (ma_cons (me_new (mf_lst (ma_cons (me_neg me_int) (ma_cons (me_var 6) ma_nil)))) (ma_cons (me_tup (ma_cons me_int (ma_cons (me_var 6) ma_nil))) (ma_cons (me_new (mf_lst (ma_cons (me_var 5) (ma_cons (me_op oPow me_int me_int) ma_nil)))) (ma_cons (me_new (mf_lst (ma_cons me_str (ma_cons (me_var 6) ma_nil)))) (ma_cons (me_new (mf_lst (ma_cons (me_var 5) (ma_cons me_non ma_nil)))) (ma_cons (me_new (mf_lst (ma_cons (me_new (mf_lst (ma_cons (me_var 5) ma_nil))) (ma_cons (me_var 6) ma_nil)))) (ma_cons me_str (ma_cons (me_new mf_dK) (ma_cons me_non ma_nil))))))))))))))))
    (mss_cons (ms_set 11 sc_law.nd (me_f G_law_take (hr.mono (by decide)) (ma_cons (me_var 1) (ma_cons me_int ma_nil))))
    (mss_cons (ms_for rfl (mi_seq (me_new (mf_lst (ma_cons (me_ixV 10 oIx (me_var 11)) (ma_cons (me_ixV 10 oIx (me_op oMod (me_callT cInt3 (by rfl) T.b_int (by decide +kernel) (me_op oAdd (me_op oMul3 (me_var 11) me_int) me_int)) me_int)) ma_nil))))) (mg_name 12 sc_law.nd) (mss_one (ms_if (mt_w (mw_or (mt_cmp (oNe2 hr.units) (me_f G_law_told (hr.mono (by decide)) (ma_cons (me_var 4) (ma_cons (me_var 12) ma_nil))) me_str) (mw_or1 (mt_not (mt_tru (me_f G_law_base (hr.mono (by decide)) (ma_cons (me_var 4) (ma_cons (me_var 12) ma_nil)))))))) (mss_one (ms_ret me_bl)) mss_nil)))
    (mss_one (ms_ret (me_and (me_cmp (oEq2 hr.units) (me_f G_law_told (hr.mono (by decide)) (ma_cons (me_var 4) (ma_cons (me_tup (ma_cons (me_var 5) (ma_cons (me_var 6) ma_nil))) ma_nil))) me_str) (me_one (me_cmp (oEq2 hr.units) (me_f G_law_told (hr.mono (by decide)) (ma_cons (me_var 4) (ma_cons (me_new (mf_lst (ma_cons (me_var 5) (ma_cons (me_var 6) ma_nil)))) ma_nil))) me_str)))))))))))))))))
end
theorem fn_law {ca : Nat → Addr} {P : Program} {w : World} {K : PySem.W.Frag} {mg : Str → Option Value} {base : Heap} {f : Addr} {fd : FuncData} (T : Txt K mg ca) (G_run_program : Fnxd P w K mg base ca 56 "run_program" ["program", "inputs", "place"] (f_run_program ca) [.tup []]) (G_law_draws : Fnn P w K mg base 1 "_law_draws" ["_law_script", "_law_many"] f_law_draws) (G_law_take : Fnn P w K mg base 1 "_law_take" ["_law_hand", "_law_many"] f_law_take) (G_law_same : Fnn P w K mg base 9 "_law_same" ["_law_found", "_law_expected"] (f_law_same 8)) (G_law_program : Fnn P w K mg base 3 "_law_program" ["_law_draws_here"] (f_law_program ca)) (G_law_steps : Fnn P w K mg base 3 "_law_steps" ["_law_draws_here", "_law_a", "_law_b"] f_law_steps) (G_law_told : Fnn P w K mg base 57 "_law_told" ["_law_program_here", "_law_inputs"] (f_law_told ca)) (G_law_base : Fnn P w K mg base 57 "_law_base" ["_law_program_here", "_law_inputs"] (f_law_base ca)) (F : Fun K "law" "law" s_law f fd) : FnOk P w K mg base CX0 58 f fd ["_law_script"] (spM K 1 (f_law ca)) := by
  refine fn_ok (k := 57) F sc_law (fun cdv A outer s H E hr => ?_)
  exact (mss_cons (ms_cell 1 sc_law.nd (mf_lst (ma_cons (me_f G_law_draws (hr.mono (by decide)) (ma_cons (me_var 0) (ma_cons me_int ma_nil))) (ma_cons me_int ma_nil))))
    (mss_cons (ms_own 2 sc_law.nd (mf_lst (ma_cons (me_op oSub (me_f G_law_take (hr.mono (by decide)) (ma_cons (me_var 1) (ma_cons me_int ma_nil))) me_int) (ma_cons (me_op oSub (me_f G_law_take (hr.mono (by decide)) (ma_cons (me_var 1) (ma_cons me_int ma_nil))) me_int) (ma_cons (me_op oSub (me_f G_law_take (hr.mono (by decide)) (ma_cons (me_var 1) (ma_cons me_int ma_nil))) me_int) (ma_cons (me_op oSub (me_f G_law_take (hr.mono (by decide)) (ma_cons (me_var 1) (ma_cons me_int ma_nil))) me_int) ma_nil))))))
    (mss_cons (ms_expr (me_app 2 (me_f G_law_take (hr.mono (by decide)) (ma_cons (me_var 1) (ma_cons me_int ma_nil)))))
    (mss_cons (ms_set 3 sc_law.nd (me_ix oIx (me_new (mf_lst (ma_cons (me_neg me_int) (ma_cons (me_op oAdd (me_neg me_int) (me_f G_law_take (hr.mono (by decide)) (ma_cons (me_var 1) (ma_cons me_int ma_nil)))) (ma_cons (me_neg me_int) ma_nil))))) (me_f G_law_take (hr.mono (by decide)) (ma_cons (me_var 1) (ma_cons me_int ma_nil)))))
    (mss_cons (ms_set 2 sc_law.nd (me_opLv 2 oAdd (me_new (mf_lst (ma_cons (me_var 3) (ma_cons (me_op oAdd (me_var 3) (me_ix oIx (me_new (mf_lst (ma_cons me_int (ma_cons (me_f G_law_take (hr.mono (by decide)) (ma_cons (me_var 1) (ma_cons me_int ma_nil))) (ma_cons me_int ma_nil))))) (me_f G_law_take (hr.mono (by decide)) (ma_cons (me_var 1) (ma_cons me_int ma_nil))))) (ma_cons (me_f G_law_take (hr.mono (by decide)) (ma_cons (me_var 1) (ma_cons me_int ma_nil))) ma_nil)))))))
    (mss_cons (ms_set 4 sc_law.nd (me_f G_law_program (hr.mono (by decide)) (ma_cons (me_var 2) ma_nil)))
    (mss_cons (ms_set 5 sc_law.nd (me_op oSub (me_f G_law_take (hr.mono (by decide)) (ma_cons (me_var 1) (ma_cons me_int ma_nil))) me_int))
    (mss_cons (ms_set 6 sc_law.nd (me_callBs (cMax2 rfl) (by rfl) T.b_max (by decide +kernel) (ma_cons (me_neg me_int) (ma_cons (me_callBs (cMin2 rfl) (by rfl) T.b_min (by decide +kernel) (ma_cons me_int (ma_cons (me_callT cInt3 (by rfl) T.b_int (by decide +kernel) (me_op oSub (me_op oAdd (me_var 3) (me_f G_law_take (hr.mono (by decide)) (ma_cons (me_var 1) (ma_cons me_int ma_nil)))) me_int)) ma_nil))) ma_nil))))
    (mss_cons (ms_for rfl (mi_rg1 (by rfl) T.b_range me_int) (mg_name 7 sc_law.nd) (mss_cons (ms_set 8 sc_law.nd (me_fd (fnd_noX G_run_program) (hr.mono (by decide)) (ma_cons (me_var 4) (ma_cons (me_new (mf_lst (ma_cons (me_var 5) (ma_cons (me_var 6) ma_nil)))) ma_nil))))
    (mss_cons (ms_set 9 sc_law.nd (me_f G_law_steps (hr.mono (by decide)) (ma_cons (me_var 2) (ma_cons (me_var 5) (ma_cons (me_var 6) ma_nil)))))
    (mss_cons (ms_if (mt_w (mw_or (mt_not (mt_tru (me_isiC (T := "list") (by rfl) T.b_isinstance (by rfl) T.b_list (by decide +kernel) (me_fld T.k5 T.n5_events (me_var 8))))) (mw_or1 (mt_not (mt_tru (me_f G_law_same (hr.mono (by decide)) (ma_cons (me_callT cTuple (by rfl) T.b_tuple (by decide +kernel) (me_fld T.k5 T.n5_events (me_var 8))) (ma_cons (me_callT cTuple (by rfl) T.b_tuple (by decide +kernel) (me_ixV 9 oIx me_int)) ma_nil)))))))) (mss_one (ms_ret me_bl)) mss_nil)
    (mss_cons (ms_if (mt_not (mt_tru (me_f G_law_same (hr.mono (by decide)) (ma_cons (me_fld T.k5 T.n5_outcome (me_var 8)) (ma_cons (me_ixV 9 oIx me_int) ma_nil))))) (mss_one (ms_ret me_bl)) mss_nil)
    (mss_cons (ms_set 5 sc_law.nd (me_ix oIx (me_new (mf_lst (ma_cons me_int (ma_cons (me_neg me_int) ma_nil)))) (me_f G_law_take (hr.mono (by decide)) (ma_cons (me_var 1) (ma_cons me_int ma_nil)))))
    (mss_one (ms_set 6 sc_law.nd (me_ix oIx (me_new (mf_lst (ma_cons me_int (ma_cons (me_neg me_int) ma_nil)))) (me_f G_law_take (hr.mono (by decide)) (ma_cons (me_var 1) (ma_cons me_int ma_nil))))))))))))
    (mss_cons (ms_set 10 sc_law.nd (me_new (mf_lst (ma_cons (me_new (mf_lst (ma_cons (me_var 5) ma_nil))) (ma_cons (me_new (mf_lst (ma_cons (me_var 5) (ma_cons (me_var 6) (ma_cons me_int ma_nil))))) (ma_cons (me_new (mf_lst ma_nil)) (ma_cons (me_new (mf_lst (ma_cons (me_var 5) (ma_cons me_int ma_nil)))) (ma_cons (me_new (mf_lst (ma_cons (me_neg me_int) (ma_cons (me_var 6) ma_nil)))) (ma_cons (me_tup (ma_cons me_int (ma_cons (me_var 6) ma_nil))) (ma_cons (me_new (mf_lst (ma_cons (me_var 5) (ma_cons (me_op oPow me_int me_int) ma_nil)))) (ma_cons (me_new (mf_lst (ma_cons me_str (ma_cons (me_var 6) ma_nil)))) (ma_cons (me_new (mf_lst (ma_cons (me_var 5) (ma_cons me_non ma_nil)))) (ma_cons (me_new (mf_lst (ma_cons (me_new (mf_lst (ma_cons (me_var 5) ma_nil))) (ma_cons (me_var 6) ma_nil)))) (ma_cons me_str (ma_cons (me_new mf_dK) (ma_cons me_non ma_nil))))))))))))))))
    (mss_cons (ms_set 11 sc_law.nd (me_f G_law_take (hr.mono (by decide)) (ma_cons (me_var 1) (ma_cons me_int ma_nil))))
    (mss_cons (ms_for rfl (mi_seq (me_new (mf_lst (ma_cons (me_ixV 10 oIx (me_var 11)) (ma_cons (me_ixV 10 oIx (me_op oMod (me_callT cInt3 (by rfl) T.b_int (by decide +kernel) (me_op oAdd (me_op oMul3 (me_var 11) me_int) me_int)) me_int)) ma_nil))))) (mg_name 12 sc_law.nd) (mss_one (ms_if (mt_w (mw_or (mt_cmp (oNe2 hr.units) (me_f G_law_told (hr.mono (by decide)) (ma_cons (me_var 4) (ma_cons (me_var 12) ma_nil))) me_str) (mw_or1 (mt_not (mt_tru (me_f G_law_base (hr.mono (by decide)) (ma_cons (me_var 4) (ma_cons (me_var 12) ma_nil)))))))) (mss_one (ms_ret me_bl)) mss_nil)))
    (mss_one (ms_ret (me_and (me_cmp (oEq2 hr.units) (me_f G_law_told (hr.mono (by decide)) (ma_cons (me_var 4) (ma_cons (me_tup (ma_cons (me_var 5) (ma_cons (me_var 6) ma_nil))) ma_nil))) me_str) (me_one (me_cmp (oEq2 hr.units) (me_f G_law_told (hr.mono (by decide)) (ma_cons (me_var 4) (ma_cons (me_new (mf_lst (ma_cons (me_var 5) (ma_cons (me_var 6) ma_nil)))) ma_nil))) me_str)))))))))))))))))
theorem all_mk {l : PySem.W.OpenLaw} {w : World} {K : PySem.W.Frag} {h : Heap} {mg : Str → Option Value} {fa C0 C1 C2 C3 C4 C5 C6 : Addr} (X : K.In h) (G : h.Ns mainGlobals mg) (hfa : mg "law" = some (.ref fa))
    {od1 an1 od2 an2 od3 an3 od4 an4 od5 an5 od6 an6 od7 an7 od8 an8 od9 an9 od10 an10 od11 an11 od12 an12 od13 an13 od14 an14 od15 an15 od16 an16 od17 an17 od18 an18 od19 an19 od20 an20 od21 an21 od22 an22 od23 an23 od24 an24 od25 an25 od26 an26 od27 an27 od28 an28 od29 an29 od30 an30 od31 an31 od32 an32 od33 an33 od34 an34 od35 an35 od36 an36 od37 an37 od38 an38 od39 an39 od40 an40 od41 an41 od42 an42 od43 an43 : Option Addr} {sl1 sl2 sl3 sl4 sl5 sl6 sl7 sl8 sl9 sl10 sl11 sl12 sl13 sl14 sl15 sl16 sl17 sl18 sl19 sl20 sl21 sl22 sl23 sl24 sl25 sl26 sl27 sl28 sl29 sl30 sl31 sl32 sl33 sl34 sl35 sl36 sl37 sl38 sl39 sl40 sl41 sl42 sl43 : Array (Option Value)} {oc1 kV1 dc1 pm1 cd1 ct1 oc2 kV2 dc2 pm2 cd2 ct2 oc3 kV3 dc3 pm3 cd3 ct3 oc4 kV4 dc4 pm4 cd4 ct4 oc5 kV5 dc5 pm5 cd5 ct5 oc6 kV6 dc6 pm6 cd6 ct6 oc7 kV7 dc7 pm7 cd7 ct7 oc8 kV8 dc8 pm8 cd8 ct8 oc9 kV9 dc9 pm9 cd9 ct9 oc10 kV10 dc10 pm10 cd10 ct10 oc11 kV11 dc11 pm11 cd11 ct11 oc12 kV12 dc12 pm12 cd12 ct12 oc13 kV13 dc13 pm13 cd13 ct13 oc14 kV14 dc14 pm14 cd14 ct14 oc15 kV15 dc15 pm15 cd15 ct15 oc16 kV16 dc16 pm16 cd16 ct16 oc17 kV17 dc17 pm17 cd17 ct17 oc18 kV18 dc18 pm18 cd18 ct18 oc19 kV19 dc19 pm19 cd19 ct19 oc20 kV20 dc20 pm20 cd20 ct20 oc21 kV21 dc21 pm21 cd21 ct21 oc22 kV22 dc22 pm22 cd22 ct22 oc23 kV23 dc23 pm23 cd23 ct23 oc24 kV24 dc24 pm24 cd24 ct24 oc25 kV25 dc25 pm25 cd25 ct25 oc26 kV26 dc26 pm26 cd26 ct26 oc27 kV27 dc27 pm27 cd27 ct27 oc28 kV28 dc28 pm28 cd28 ct28 oc29 kV29 dc29 pm29 cd29 ct29 oc30 kV30 dc30 pm30 cd30 ct30 oc31 kV31 dc31 pm31 cd31 ct31 oc32 kV32 dc32 pm32 cd32 ct32 oc33 dc33 pm33 cd33 ct33 oc34 kV34 dc34 pm34 cd34 ct34 oc35 kV35 dc35 pm35 cd35 ct35 oc36 kV36 dc36 pm36 cd36 ct36 oc37 kV37 dc37 pm37 cd37 ct37 oc38 kV38 dc38 pm38 cd38 ct38 oc39 kV39 dc39 pm39 cd39 ct39 oc40 kV40 dc40 pm40 cd40 ct40 oc41 kV41 dc41 pm41 cd41 ct41 oc42 kV42 dc42 pm42 cd42 ct42 oc43 kV43 dc43 pm43 cd43 ct43 : Value} {f1 f2 f3 f4 f5 f6 f7 f8 f9 f10 f11 f12 f13 f14 f15 f16 f17 f18 f19 f20 f21 f22 f23 f24 f25 f26 f27 f28 f29 f30 f31 f32 f33 f34 f35 f36 f37 f38 f39 f40 f41 f42 f43 : Addr} {pp2 : Addr} {ps2 : List Value} {DD33 TT33 : Addr} {td33 : Option Addr} {ti33 : Array Value} {tn33 : Nat} {ts33 : Array (Option Value)}
    (aE0 : PySem.W.nsIn K mainGlobals "WayError" = some (some (.ref C0)))
    (aE1 : PySem.W.nsIn K mainGlobals "BadLine" = some (some (.ref C1)))
    (aE2 : PySem.W.nsIn K mainGlobals "BadInput" = some (some (.ref C2)))
    (eb0 : PySem.W.subIn K (.ref C0) (.type "BaseException") = some true)
    (et0 : PySem.W.typeIn K (.ref C0) = some (.type "type"))
    (ek0 : PySem.W.keepIn K (.ref C0) = true)
    (ed0 : PySem.W.hasDictIn K C0 = true)
    (eg0 : PySem.W.findIn K (.ref C0) "__getattribute__" = some (some (.builtin "BaseException.__getattribute__")))
    (eh0 : PySem.W.findIn K (.ref C0) "__getattr__" = some none)
    (eb1 : PySem.W.subIn K (.ref C1) (.type "BaseException") = some true)
    (et1 : PySem.W.typeIn K (.ref C1) = some (.type "type"))
    (ek1 : PySem.W.keepIn K (.ref C1) = true)
    (ed1 : PySem.W.hasDictIn K C1 = true)
    (eg1 : PySem.W.findIn K (.ref C1) "__getattribute__" = some (some (.builtin "BaseException.__getattribute__")))
    (eh1 : PySem.W.findIn K (.ref C1) "__getattr__" = some none)
    (eb2 : PySem.W.subIn K (.ref C2) (.type "BaseException") = some true)
    (et2 : PySem.W.typeIn K (.ref C2) = some (.type "type"))
    (ek2 : PySem.W.keepIn K (.ref C2) = true)
    (ed2 : PySem.W.hasDictIn K C2 = true)
    (eg2 : PySem.W.findIn K (.ref C2) "__getattribute__" = some (some (.builtin "BaseException.__getattribute__")))
    (eh2 : PySem.W.findIn K (.ref C2) "__getattr__" = some none)
    (ea2 : PySem.W.findIn K (.ref C2) "__class__" = some (some (.builtin "object.__class__")))
    (eo2 : PySem.W.mroIn K C2 (.type "object") = some true)
    (esp : PySem.W.specialIn K (.builtin "object.__class__") "__get__" = some (some (.builtin "getset_descriptor.__get__")))
    (etk : PySem.W.takesIn K (.builtin "object.__class__") = some true)
    (ex2 : PySem.W.excIn K C2 [.type "ValueError", .type "Exception", .type "BaseException", .type "object"] "ValueError.__new__" = true)
    (hsb2_2 : PySem.W.subIn K (.ref C2) (.ref C2) = some true)
    (hsb2_1 : PySem.W.subIn K (.ref C2) (.ref C1) = some false)
    (hsb2_0 : PySem.W.subIn K (.ref C2) (.ref C0) = some true)
    (hkb2_ValueError : PySem.W.subIn K (.ref C2) (.type "ValueError") = some true)
    (aC3 : PySem.W.nsIn K mainGlobals "Program" = some (some (.ref C3))) (pg3 : PySem.W.plainGet K C3 Str.empty = true) (hd3 : PySem.W.hasDictIn K C3 = true) (po3 : PySem.W.plainOver K C3 = true) (sa3 : PySem.W.findIn K (.ref C3) "__setattr__" = some (some (.builtin "object.__setattr__"))) (mk3 : PySem.W.makesIn K C3 = true) (kc3 : PySem.W.keepIn K (.ref C3) = true) (nn3_inputs : PySem.W.findIn K (.ref C3) "inputs" = some none) (nn3_functions : PySem.W.findIn K (.ref C3) "functions" = some none) (nn3_body : PySem.W.findIn K (.ref C3) "body" = some none)
    (aC4 : PySem.W.nsIn K mainGlobals "Watch" = some (some (.ref C4))) (pg4 : PySem.W.plainGet K C4 Str.empty = true) (hd4 : PySem.W.hasDictIn K C4 = true) (po4 : PySem.W.plainOver K C4 = true) (sa4 : PySem.W.findIn K (.ref C4) "__setattr__" = some (some (.builtin "object.__setattr__"))) (mk4 : PySem.W.makesIn K C4 = true) (kc4 : PySem.W.keepIn K (.ref C4) = true) (nn4_place : PySem.W.findIn K (.ref C4) "place" = some none) (nn4_progress : PySem.W.findIn K (.ref C4) "progress" = some none)
    (aC5 : PySem.W.nsIn K mainGlobals "Run" = some (some (.ref C5))) (pg5 : PySem.W.plainGet K C5 Str.empty = true) (hd5 : PySem.W.hasDictIn K C5 = true) (po5 : PySem.W.plainOver K C5 = true) (sa5 : PySem.W.findIn K (.ref C5) "__setattr__" = some (some (.builtin "object.__setattr__"))) (mk5 : PySem.W.makesIn K C5 = true) (kc5 : PySem.W.keepIn K (.ref C5) = true) (nn5_outcome : PySem.W.findIn K (.ref C5) "outcome" = some none) (nn5_events : PySem.W.findIn K (.ref C5) "events" = some none) (nn5_met : PySem.W.findIn K (.ref C5) "met" = some none) (nn5_watch : PySem.W.findIn K (.ref C5) "watch" = some none)
    (aC6 : PySem.W.nsIn K mainGlobals "Frame" = some (some (.ref C6))) (pg6 : PySem.W.plainGet K C6 Str.empty = true) (hd6 : PySem.W.hasDictIn K C6 = true) (po6 : PySem.W.plainOver K C6 = true) (sa6 : PySem.W.findIn K (.ref C6) "__setattr__" = some (some (.builtin "object.__setattr__"))) (mk6 : PySem.W.makesIn K C6 = true) (kc6 : PySem.W.keepIn K (.ref C6) = true) (nn6_variables : PySem.W.findIn K (.ref C6) "variables" = some none) (nn6_ranges : PySem.W.findIn K (.ref C6) "ranges" = some none)
    (a1 : PySem.W.findIn K (.ref C3) "__init__" = some (some (.ref f1))) (i1 : PySem.W.isFn K (.ref f1) = true) (l1 : K.lookup f1 = some ⟨oc1, od1, .func (PySem.W.fnOf "__init__" "Program.__init__" (defArgs s_Program___init__) (defBody s_Program___init__) (defScope s_Program___init__) .none kV1 dc1 pm1 an1 cd1 ct1), sl1⟩) (c1 : PySem.W.codeIn K cd1 "Program.__init__" = true) (k1 : PySem.W.keepIn K (.ref f1) = true)
    (a2 : PySem.W.findIn K (.ref C3) "unknowns" = some (some (.ref pp2))) (pq2 : PySem.W.specialIn K (.ref pp2) "__get__" = some (some (.builtin "property.__get__"))) (pt2 : PySem.W.takesIn K (.ref pp2) = some true) (pr2 : PySem.W.recIn K pp2 "property" = some (.ref f2 :: ps2)) (l2 : K.lookup f2 = some ⟨oc2, od2, .func (PySem.W.fnOf "unknowns" "Program.unknowns" (defArgs s_Program_unknowns) (defBody s_Program_unknowns) (defScope s_Program_unknowns) .none kV2 dc2 pm2 an2 cd2 ct2), sl2⟩) (c2 : PySem.W.codeIn K cd2 "Program.unknowns" = true) (k2 : PySem.W.keepIn K (.ref f2) = true)
    (a3 : PySem.W.nsIn K mainGlobals "find_function" = some (some (.ref f3))) (l3 : K.lookup f3 = some ⟨oc3, od3, .func (PySem.W.fnOf "find_function" "find_function" (defArgs s_find_function) (defBody s_find_function) (defScope s_find_function) .none kV3 dc3 pm3 an3 cd3 ct3), sl3⟩) (c3 : PySem.W.codeIn K cd3 "find_function" = true) (k3 : PySem.W.keepIn K (.ref f3) = true)
    (a4 : PySem.W.nsIn K mainGlobals "value_of" = some (some (.ref f4))) (l4 : K.lookup f4 = some ⟨oc4, od4, .func (PySem.W.fnOf "value_of" "value_of" (defArgs s_value_of) (defBody s_value_of) (defScope s_value_of) .none kV4 dc4 pm4 an4 cd4 ct4), sl4⟩) (c4 : PySem.W.codeIn K cd4 "value_of" = true) (k4 : PySem.W.keepIn K (.ref f4) = true)
    (a5 : PySem.W.nsIn K mainGlobals "compares" = some (some (.ref f5))) (l5 : K.lookup f5 = some ⟨oc5, od5, .func (PySem.W.fnOf "compares" "compares" (defArgs s_compares) (defBody s_compares) (defScope s_compares) .none kV5 dc5 pm5 an5 cd5 ct5), sl5⟩) (c5 : PySem.W.codeIn K cd5 "compares" = true) (k5 : PySem.W.keepIn K (.ref f5) = true)
    (a6 : PySem.W.nsIn K mainGlobals "truth_of" = some (some (.ref f6))) (l6 : K.lookup f6 = some ⟨oc6, od6, .func (PySem.W.fnOf "truth_of" "truth_of" (defArgs s_truth_of) (defBody s_truth_of) (defScope s_truth_of) .none kV6 dc6 pm6 an6 cd6 ct6), sl6⟩) (c6 : PySem.W.codeIn K cd6 "truth_of" = true) (k6 : PySem.W.keepIn K (.ref f6) = true)
    (a7 : PySem.W.findIn K (.ref C4) "__init__" = some (some (.ref f7))) (i7 : PySem.W.isFn K (.ref f7) = true) (l7 : K.lookup f7 = some ⟨oc7, od7, .func (PySem.W.fnOf "__init__" "Watch.__init__" (defArgs s_Watch___init__) (defBody s_Watch___init__) (defScope s_Watch___init__) .none kV7 dc7 pm7 an7 cd7 ct7), sl7⟩) (c7 : PySem.W.codeIn K cd7 "Watch.__init__" = true) (k7 : PySem.W.keepIn K (.ref f7) = true)
    (a8 : PySem.W.findIn K (.ref C4) "next_atom" = some (some (.ref f8))) (i8 : PySem.W.isFn K (.ref f8) = true) (l8 : K.lookup f8 = some ⟨oc8, od8, .func (PySem.W.fnOf "next_atom" "Watch.next_atom" (defArgs s_Watch_next_atom) (defBody s_Watch_next_atom) (defScope s_Watch_next_atom) .none kV8 dc8 pm8 an8 cd8 ct8), sl8⟩) (c8 : PySem.W.codeIn K cd8 "Watch.next_atom" = true) (k8 : PySem.W.keepIn K (.ref f8) = true)
    (a9 : PySem.W.findIn K (.ref C4) "wanted" = some (some (.ref f9))) (i9 : PySem.W.isFn K (.ref f9) = true) (l9 : K.lookup f9 = some ⟨oc9, od9, .func (PySem.W.fnOf "wanted" "Watch.wanted" (defArgs s_Watch_wanted) (defBody s_Watch_wanted) (defScope s_Watch_wanted) .none kV9 dc9 pm9 an9 cd9 ct9), sl9⟩) (c9 : PySem.W.codeIn K cd9 "Watch.wanted" = true) (k9 : PySem.W.keepIn K (.ref f9) = true)
    (a10 : PySem.W.findIn K (.ref C4) "meets" = some (some (.ref f10))) (i10 : PySem.W.isFn K (.ref f10) = true) (l10 : K.lookup f10 = some ⟨oc10, od10, .func (PySem.W.fnOf "meets" "Watch.meets" (defArgs s_Watch_meets) (defBody s_Watch_meets) (defScope s_Watch_meets) .none kV10 dc10 pm10 an10 cd10 ct10), sl10⟩) (c10 : PySem.W.codeIn K cd10 "Watch.meets" = true) (k10 : PySem.W.keepIn K (.ref f10) = true)
    (a11 : PySem.W.findIn K (.ref C4) "see" = some (some (.ref f11))) (i11 : PySem.W.isFn K (.ref f11) = true) (l11 : K.lookup f11 = some ⟨oc11, od11, .func (PySem.W.fnOf "see" "Watch.see" (defArgs s_Watch_see) (defBody s_Watch_see) (defScope s_Watch_see) .none kV11 dc11 pm11 an11 cd11 ct11), sl11⟩) (c11 : PySem.W.codeIn K cd11 "Watch.see" = true) (k11 : PySem.W.keepIn K (.ref f11) = true)
    (a12 : PySem.W.findIn K (.ref C5) "__init__" = some (some (.ref f12))) (i12 : PySem.W.isFn K (.ref f12) = true) (l12 : K.lookup f12 = some ⟨oc12, od12, .func (PySem.W.fnOf "__init__" "Run.__init__" (defArgs s_Run___init__) (defBody s_Run___init__) (defScope s_Run___init__) .none kV12 dc12 pm12 an12 cd12 ct12), sl12⟩) (c12 : PySem.W.codeIn K cd12 "Run.__init__" = true) (k12 : PySem.W.keepIn K (.ref f12) = true)
    (a13 : PySem.W.findIn K (.ref C5) "sees" = some (some (.ref f13))) (i13 : PySem.W.isFn K (.ref f13) = true) (l13 : K.lookup f13 = some ⟨oc13, od13, .func (PySem.W.fnOf "sees" "Run.sees" (defArgs s_Run_sees) (defBody s_Run_sees) (defScope s_Run_sees) .none kV13 dc13 pm13 an13 cd13 ct13), sl13⟩) (c13 : PySem.W.codeIn K cd13 "Run.sees" = true) (k13 : PySem.W.keepIn K (.ref f13) = true)
    (a14 : PySem.W.findIn K (.ref C5) "happen" = some (some (.ref f14))) (i14 : PySem.W.isFn K (.ref f14) = true) (l14 : K.lookup f14 = some ⟨oc14, od14, .func (PySem.W.fnOf "happen" "Run.happen" (defArgs s_Run_happen) (defBody s_Run_happen) (defScope s_Run_happen) .none kV14 dc14 pm14 an14 cd14 ct14), sl14⟩) (c14 : PySem.W.codeIn K cd14 "Run.happen" = true) (k14 : PySem.W.keepIn K (.ref f14) = true)
    (a15 : PySem.W.findIn K (.ref C5) "fault" = some (some (.ref f15))) (i15 : PySem.W.isFn K (.ref f15) = true) (l15 : K.lookup f15 = some ⟨oc15, od15, .func (PySem.W.fnOf "fault" "Run.fault" (defArgs s_Run_fault) (defBody s_Run_fault) (defScope s_Run_fault) .none kV15 dc15 pm15 an15 cd15 ct15), sl15⟩) (c15 : PySem.W.codeIn K cd15 "Run.fault" = true) (k15 : PySem.W.keepIn K (.ref f15) = true)
    (a16 : PySem.W.findIn K (.ref C6) "__init__" = some (some (.ref f16))) (i16 : PySem.W.isFn K (.ref f16) = true) (l16 : K.lookup f16 = some ⟨oc16, od16, .func (PySem.W.fnOf "__init__" "Frame.__init__" (defArgs s_Frame___init__) (defBody s_Frame___init__) (defScope s_Frame___init__) .none kV16 dc16 pm16 an16 cd16 ct16), sl16⟩) (c16 : PySem.W.codeIn K cd16 "Frame.__init__" = true) (k16 : PySem.W.keepIn K (.ref f16) = true)
    (a17 : PySem.W.nsIn K mainGlobals "is_integer" = some (some (.ref f17))) (l17 : K.lookup f17 = some ⟨oc17, od17, .func (PySem.W.fnOf "is_integer" "is_integer" (defArgs s_is_integer) (defBody s_is_integer) (defScope s_is_integer) .none kV17 dc17 pm17 an17 cd17 ct17), sl17⟩) (c17 : PySem.W.codeIn K cd17 "is_integer" = true) (k17 : PySem.W.keepIn K (.ref f17) = true)
    (a18 : PySem.W.nsIn K mainGlobals "is_input" = some (some (.ref f18))) (l18 : K.lookup f18 = some ⟨oc18, od18, .func (PySem.W.fnOf "is_input" "is_input" (defArgs s_is_input) (defBody s_is_input) (defScope s_is_input) .none kV18 dc18 pm18 an18 cd18 ct18), sl18⟩) (c18 : PySem.W.codeIn K cd18 "is_input" = true) (k18 : PySem.W.keepIn K (.ref f18) = true)
    (a19 : PySem.W.nsIn K mainGlobals "input_variables" = some (some (.ref f19))) (l19 : K.lookup f19 = some ⟨oc19, od19, .func (PySem.W.fnOf "input_variables" "input_variables" (defArgs s_input_variables) (defBody s_input_variables) (defScope s_input_variables) .none kV19 dc19 pm19 an19 cd19 ct19), sl19⟩) (c19 : PySem.W.codeIn K cd19 "input_variables" = true) (k19 : PySem.W.keepIn K (.ref f19) = true)
    (a20 : PySem.W.nsIn K mainGlobals "store" = some (some (.ref f20))) (l20 : K.lookup f20 = some ⟨oc20, od20, .func (PySem.W.fnOf "store" "store" (defArgs s_store) (defBody s_store) (defScope s_store) .none kV20 dc20 pm20 an20 cd20 ct20), sl20⟩) (c20 : PySem.W.codeIn K cd20 "store" = true) (k20 : PySem.W.keepIn K (.ref f20) = true)
    (a21 : PySem.W.nsIn K mainGlobals "do_let" = some (some (.ref f21))) (l21 : K.lookup f21 = some ⟨oc21, od21, .func (PySem.W.fnOf "do_let" "do_let" (defArgs s_do_let) (defBody s_do_let) (defScope s_do_let) .none kV21 dc21 pm21 an21 cd21 ct21), sl21⟩) (c21 : PySem.W.codeIn K cd21 "do_let" = true) (k21 : PySem.W.keepIn K (.ref f21) = true)
    (a22 : PySem.W.nsIn K mainGlobals "do_list" = some (some (.ref f22))) (l22 : K.lookup f22 = some ⟨oc22, od22, .func (PySem.W.fnOf "do_list" "do_list" (defArgs s_do_list) (defBody s_do_list) (defScope s_do_list) .none kV22 dc22 pm22 an22 cd22 ct22), sl22⟩) (c22 : PySem.W.codeIn K cd22 "do_list" = true) (k22 : PySem.W.keepIn K (.ref f22) = true)
    (a23 : PySem.W.nsIn K mainGlobals "do_put" = some (some (.ref f23))) (l23 : K.lookup f23 = some ⟨oc23, od23, .func (PySem.W.fnOf "do_put" "do_put" (defArgs s_do_put) (defBody s_do_put) (defScope s_do_put) .none kV23 dc23 pm23 an23 cd23 ct23), sl23⟩) (c23 : PySem.W.codeIn K cd23 "do_put" = true) (k23 : PySem.W.keepIn K (.ref f23) = true)
    (a24 : PySem.W.nsIn K mainGlobals "ask" = some (some (.ref f24))) (l24 : K.lookup f24 = some ⟨oc24, od24, .func (PySem.W.fnOf "ask" "ask" (defArgs s_ask) (defBody s_ask) (defScope s_ask) .none kV24 dc24 pm24 an24 cd24 ct24), sl24⟩) (c24 : PySem.W.codeIn K cd24 "ask" = true) (k24 : PySem.W.keepIn K (.ref f24) = true)
    (a25 : PySem.W.nsIn K mainGlobals "do_check" = some (some (.ref f25))) (l25 : K.lookup f25 = some ⟨oc25, od25, .func (PySem.W.fnOf "do_check" "do_check" (defArgs s_do_check) (defBody s_do_check) (defScope s_do_check) .none kV25 dc25 pm25 an25 cd25 ct25), sl25⟩) (c25 : PySem.W.codeIn K cd25 "do_check" = true) (k25 : PySem.W.keepIn K (.ref f25) = true)
    (a26 : PySem.W.nsIn K mainGlobals "do_result" = some (some (.ref f26))) (l26 : K.lookup f26 = some ⟨oc26, od26, .func (PySem.W.fnOf "do_result" "do_result" (defArgs s_do_result) (defBody s_do_result) (defScope s_do_result) .none kV26 dc26 pm26 an26 cd26 ct26), sl26⟩) (c26 : PySem.W.codeIn K cd26 "do_result" = true) (k26 : PySem.W.keepIn K (.ref f26) = true)
    (a27 : PySem.W.nsIn K mainGlobals "do_plain" = some (some (.ref f27))) (l27 : K.lookup f27 = some ⟨oc27, od27, .func (PySem.W.fnOf "do_plain" "do_plain" (defArgs s_do_plain) (defBody s_do_plain) (defScope s_do_plain) .none kV27 dc27 pm27 an27 cd27 ct27), sl27⟩) (c27 : PySem.W.codeIn K cd27 "do_plain" = true) (k27 : PySem.W.keepIn K (.ref f27) = true)
    (a28 : PySem.W.nsIn K mainGlobals "do_call" = some (some (.ref f28))) (l28 : K.lookup f28 = some ⟨oc28, od28, .func (PySem.W.fnOf "do_call" "do_call" (defArgs s_do_call) (defBody s_do_call) (defScope s_do_call) .none kV28 dc28 pm28 an28 cd28 ct28), sl28⟩) (c28 : PySem.W.codeIn K cd28 "do_call" = true) (k28 : PySem.W.keepIn K (.ref f28) = true)
    (a29 : PySem.W.nsIn K mainGlobals "do_if" = some (some (.ref f29))) (l29 : K.lookup f29 = some ⟨oc29, od29, .func (PySem.W.fnOf "do_if" "do_if" (defArgs s_do_if) (defBody s_do_if) (defScope s_do_if) .none kV29 dc29 pm29 an29 cd29 ct29), sl29⟩) (c29 : PySem.W.codeIn K cd29 "do_if" = true) (k29 : PySem.W.keepIn K (.ref f29) = true)
    (a30 : PySem.W.nsIn K mainGlobals "do_while" = some (some (.ref f30))) (l30 : K.lookup f30 = some ⟨oc30, od30, .func (PySem.W.fnOf "do_while" "do_while" (defArgs s_do_while) (defBody s_do_while) (defScope s_do_while) .none kV30 dc30 pm30 an30 cd30 ct30), sl30⟩) (c30 : PySem.W.codeIn K cd30 "do_while" = true) (k30 : PySem.W.keepIn K (.ref f30) = true)
    (a31 : PySem.W.nsIn K mainGlobals "do_statement" = some (some (.ref f31))) (l31 : K.lookup f31 = some ⟨oc31, od31, .func (PySem.W.fnOf "do_statement" "do_statement" (defArgs s_do_statement) (defBody s_do_statement) (defScope s_do_statement) .none kV31 dc31 pm31 an31 cd31 ct31), sl31⟩) (c31 : PySem.W.codeIn K cd31 "do_statement" = true) (k31 : PySem.W.keepIn K (.ref f31) = true)
    (a32 : PySem.W.nsIn K mainGlobals "do_block" = some (some (.ref f32))) (l32 : K.lookup f32 = some ⟨oc32, od32, .func (PySem.W.fnOf "do_block" "do_block" (defArgs s_do_block) (defBody s_do_block) (defScope s_do_block) .none kV32 dc32 pm32 an32 cd32 ct32), sl32⟩) (c32 : PySem.W.codeIn K cd32 "do_block" = true) (k32 : PySem.W.keepIn K (.ref f32) = true)
    (a33 : PySem.W.nsIn K mainGlobals "run_program" = some (some (.ref f33))) (l33 : K.lookup f33 = some ⟨oc33, od33, .func (PySem.W.fnOf "run_program" "run_program" (defArgs s_run_program) (defBody s_run_program) (defScope s_run_program) .none (.ref DD33) dc33 pm33 an33 cd33 ct33), sl33⟩) (kw33 : PySem.W.nsIn K DD33 "place" = some (some (.ref TT33))) (kt33 : K.lookup TT33 = some ⟨.type "tuple", td33, .seq ti33 tn33, ts33⟩) (zgk33 : decide (ti33.size = 0) = true) (c33 : PySem.W.codeIn K cd33 "run_program" = true) (k33 : PySem.W.keepIn K (.ref f33) = true)
    (a34 : PySem.W.nsIn K mainGlobals "_law_draws" = some (some (.ref f34))) (l34 : K.lookup f34 = some ⟨oc34, od34, .func (PySem.W.fnOf "_law_draws" "_law_draws" (defArgs s_law_draws) (defBody s_law_draws) (defScope s_law_draws) .none kV34 dc34 pm34 an34 cd34 ct34), sl34⟩) (c34 : PySem.W.codeIn K cd34 "_law_draws" = true) (k34 : PySem.W.keepIn K (.ref f34) = true)
    (a35 : PySem.W.nsIn K mainGlobals "_law_take" = some (some (.ref f35))) (l35 : K.lookup f35 = some ⟨oc35, od35, .func (PySem.W.fnOf "_law_take" "_law_take" (defArgs s_law_take) (defBody s_law_take) (defScope s_law_take) .none kV35 dc35 pm35 an35 cd35 ct35), sl35⟩) (c35 : PySem.W.codeIn K cd35 "_law_take" = true) (k35 : PySem.W.keepIn K (.ref f35) = true)
    (a36 : PySem.W.nsIn K mainGlobals "_law_same" = some (some (.ref f36))) (l36 : K.lookup f36 = some ⟨oc36, od36, .func (PySem.W.fnOf "_law_same" "_law_same" (defArgs s_law_same) (defBody s_law_same) (defScope s_law_same) .none kV36 dc36 pm36 an36 cd36 ct36), sl36⟩) (c36 : PySem.W.codeIn K cd36 "_law_same" = true) (k36 : PySem.W.keepIn K (.ref f36) = true)
    (a37 : PySem.W.nsIn K mainGlobals "_law_program" = some (some (.ref f37))) (l37 : K.lookup f37 = some ⟨oc37, od37, .func (PySem.W.fnOf "_law_program" "_law_program" (defArgs s_law_program) (defBody s_law_program) (defScope s_law_program) .none kV37 dc37 pm37 an37 cd37 ct37), sl37⟩) (c37 : PySem.W.codeIn K cd37 "_law_program" = true) (k37 : PySem.W.keepIn K (.ref f37) = true)
    (a38 : PySem.W.nsIn K mainGlobals "_law_first" = some (some (.ref f38))) (l38 : K.lookup f38 = some ⟨oc38, od38, .func (PySem.W.fnOf "_law_first" "_law_first" (defArgs s_law_first) (defBody s_law_first) (defScope s_law_first) .none kV38 dc38 pm38 an38 cd38 ct38), sl38⟩) (c38 : PySem.W.codeIn K cd38 "_law_first" = true) (k38 : PySem.W.keepIn K (.ref f38) = true)
    (a39 : PySem.W.nsIn K mainGlobals "_law_second" = some (some (.ref f39))) (l39 : K.lookup f39 = some ⟨oc39, od39, .func (PySem.W.fnOf "_law_second" "_law_second" (defArgs s_law_second) (defBody s_law_second) (defScope s_law_second) .none kV39 dc39 pm39 an39 cd39 ct39), sl39⟩) (c39 : PySem.W.codeIn K cd39 "_law_second" = true) (k39 : PySem.W.keepIn K (.ref f39) = true)
    (a40 : PySem.W.nsIn K mainGlobals "_law_steps" = some (some (.ref f40))) (l40 : K.lookup f40 = some ⟨oc40, od40, .func (PySem.W.fnOf "_law_steps" "_law_steps" (defArgs s_law_steps) (defBody s_law_steps) (defScope s_law_steps) .none kV40 dc40 pm40 an40 cd40 ct40), sl40⟩) (c40 : PySem.W.codeIn K cd40 "_law_steps" = true) (k40 : PySem.W.keepIn K (.ref f40) = true)
    (a41 : PySem.W.nsIn K mainGlobals "_law_told" = some (some (.ref f41))) (l41 : K.lookup f41 = some ⟨oc41, od41, .func (PySem.W.fnOf "_law_told" "_law_told" (defArgs s_law_told) (defBody s_law_told) (defScope s_law_told) .none kV41 dc41 pm41 an41 cd41 ct41), sl41⟩) (c41 : PySem.W.codeIn K cd41 "_law_told" = true) (k41 : PySem.W.keepIn K (.ref f41) = true)
    (a42 : PySem.W.nsIn K mainGlobals "_law_base" = some (some (.ref f42))) (l42 : K.lookup f42 = some ⟨oc42, od42, .func (PySem.W.fnOf "_law_base" "_law_base" (defArgs s_law_base) (defBody s_law_base) (defScope s_law_base) .none kV42 dc42 pm42 an42 cd42 ct42), sl42⟩) (c42 : PySem.W.codeIn K cd42 "_law_base" = true) (k42 : PySem.W.keepIn K (.ref f42) = true)
    (a43 : PySem.W.nsIn K mainGlobals "law" = some (some (.ref f43))) (l43 : K.lookup f43 = some ⟨oc43, od43, .func (PySem.W.fnOf "law" "law" (defArgs s_law) (defBody s_law) (defScope s_law) .none kV43 dc43 pm43 an43 cd43 ct43), sl43⟩) (c43 : PySem.W.codeIn K cd43 "law" = true) (k43 : PySem.W.keepIn K (.ref f43) = true)
    (z0 : PySem.W.nsIn K mainGlobals "ValueError" = some none) (z1 : PySem.W.nsIn K mainGlobals "abs" = some none) (z2 : PySem.W.nsIn K mainGlobals "bool" = some none) (z3 : PySem.W.nsIn K mainGlobals "int" = some none) (z4 : PySem.W.nsIn K mainGlobals "isinstance" = some none) (z5 : PySem.W.nsIn K mainGlobals "len" = some none) (z6 : PySem.W.nsIn K mainGlobals "list" = some none) (z7 : PySem.W.nsIn K mainGlobals "max" = some none) (z8 : PySem.W.nsIn K mainGlobals "min" = some none) (z9 : PySem.W.nsIn K mainGlobals "range" = some none) (z10 : PySem.W.nsIn K mainGlobals "str" = some none) (z11 : PySem.W.nsIn K mainGlobals "tuple" = some none) (z12 : PySem.W.nsIn K mainGlobals "zip" = some none) :
    ∃ (ca : Nat → Addr) (fd : FuncData), (∀ (s : Shared) (v : Value), BindsTo s fd ⟨[v], []⟩ [("_law_script", v)]) ∧ ∀ base : Heap, K.In base → base.Ns mainGlobals mg → FnOk l.prog w K mg base CX0 58 fa fd ["_law_script"] (spM K 1 (f_law ca)) := by
  have e := hfa.symm.trans (PySem.W.mg_of X G a43)
  cases e
  let ca : Nat → Addr := fun i => match i with | 0 => C0 | 1 => C1 | 2 => C2 | 3 => C3 | 4 => C4 | 5 => C5 | _ => C6
  have T : Txt K mg ca := ⟨PySem.W.mg_none_of X G z0, PySem.W.mg_none_of X G z1, PySem.W.mg_none_of X G z2, PySem.W.mg_none_of X G z3, PySem.W.mg_none_of X G z4, PySem.W.mg_none_of X G z5, PySem.W.mg_none_of X G z6, PySem.W.mg_none_of X G z7, PySem.W.mg_none_of X G z8, PySem.W.mg_none_of X G z9, PySem.W.mg_none_of X G z10, PySem.W.mg_none_of X G z11, PySem.W.mg_none_of X G z12, ⟨pg3, hd3, po3, sa3⟩, PySem.W.mg_of X G aC3, nn3_inputs, nn3_functions, nn3_body, ⟨pg4, hd4, po4, sa4⟩, PySem.W.mg_of X G aC4, nn4_place, nn4_progress, ⟨pg5, hd5, po5, sa5⟩, PySem.W.mg_of X G aC5, nn5_outcome, nn5_events, nn5_met, nn5_watch, ⟨pg6, hd6, po6, sa6⟩, PySem.W.mg_of X G aC6, nn6_variables, nn6_ranges, PySem.W.mg_of X G aE0, PySem.W.mg_of X G aE1, PySem.W.mg_of X G aE2, ⟨ex2, PySem.W.mg_of X G aE2, ek2, eb2, et2⟩, PySem.W.exm_ref eb2 ed2 et2 hsb2_2, PySem.W.exm_ref eb0 ed0 et0 hsb2_0, ⟨eg2, eh2, eb2, ed2, ea2, esp, etk, eo2⟩, kit_ref ed2 et2 hsb2_2 hsb2_2, kit_ref ed1 et1 hsb2_1 hsb2_2, kit_bty (by decide +kernel) hkb2_ValueError⟩
  have F1 := fun_mk (st := s_Program___init__) l1 c1 k1
  have F2 := fun_mk (st := s_Program_unknowns) l2 c2 k2
  have F3 := fun_mk (st := s_find_function) l3 c3 k3
  have F4 := fun_mk (st := s_value_of) l4 c4 k4
  have F5 := fun_mk (st := s_compares) l5 c5 k5
  have F6 := fun_mk (st := s_truth_of) l6 c6 k6
  have F7 := fun_mk (st := s_Watch___init__) l7 c7 k7
  have F8 := fun_mk (st := s_Watch_next_atom) l8 c8 k8
  have F9 := fun_mk (st := s_Watch_wanted) l9 c9 k9
  have F10 := fun_mk (st := s_Watch_meets) l10 c10 k10
  have F11 := fun_mk (st := s_Watch_see) l11 c11 k11
  have F12 := fun_mk (st := s_Run___init__) l12 c12 k12
  have F13 := fun_mk (st := s_Run_sees) l13 c13 k13
  have F14 := fun_mk (st := s_Run_happen) l14 c14 k14
  have F15 := fun_mk (st := s_Run_fault) l15 c15 k15
  have F16 := fun_mk (st := s_Frame___init__) l16 c16 k16
  have F17 := fun_mk (st := s_is_integer) l17 c17 k17
  have F18 := fun_mk (st := s_is_input) l18 c18 k18
  have F19 := fun_mk (st := s_input_variables) l19 c19 k19
  have F20 := fun_mk (st := s_store) l20 c20 k20
  have F21 := fun_mk (st := s_do_let) l21 c21 k21
  have F22 := fun_mk (st := s_do_list) l22 c22 k22
  have F23 := fun_mk (st := s_do_put) l23 c23 k23
  have F24 := fun_mk (st := s_ask) l24 c24 k24
  have F25 := fun_mk (st := s_do_check) l25 c25 k25
  have F26 := fun_mk (st := s_do_result) l26 c26 k26
  have F27 := fun_mk (st := s_do_plain) l27 c27 k27
  have F28 := fun_mk (st := s_do_call) l28 c28 k28
  have F29 := fun_mk (st := s_do_if) l29 c29 k29
  have F30 := fun_mk (st := s_do_while) l30 c30 k30
  have F31 := fun_mk (st := s_do_statement) l31 c31 k31
  have F32 := fun_mk (st := s_do_block) l32 c32 k32
  have F33 := fun_mk (st := s_run_program) l33 c33 k33
  have F34 := fun_mk (st := s_law_draws) l34 c34 k34
  have F35 := fun_mk (st := s_law_take) l35 c35 k35
  have F36 := fun_mk (st := s_law_same) l36 c36 k36
  have F37 := fun_mk (st := s_law_program) l37 c37 k37
  have F38 := fun_mk (st := s_law_first) l38 c38 k38
  have F39 := fun_mk (st := s_law_second) l39 c39 k39
  have F40 := fun_mk (st := s_law_steps) l40 c40 k40
  have F41 := fun_mk (st := s_law_told) l41 c41 k41
  have F42 := fun_mk (st := s_law_base) l42 c42 k42
  have F43 := fun_mk (st := s_law) l43 c43 k43
  refine ⟨ca, PySem.W.fnOf "law" "law" (defArgs s_law) (defBody s_law) (defScope s_law) .none kV43 dc43 pm43 an43 cd43 ct43, fun s v => .of_eq rfl, fun base _ _ => ?_⟩
  have G_Program___init__ : Fii l.prog w K mg base 1 (ca 3) ["self", "inputs", "functions", "body"] (f_Program___init__ ca) := ok_Program___init__ T  F1 ⟨mk3, a1, i1, kc3⟩
  have G_Program_unknowns : Fpp l.prog w K mg base 1 (ca 3) "unknowns" ["self"] (f_Program_unknowns ca) := ok_Program_unknowns T  F2 ⟨pp2, ⟨a2, pq2, pt2, ⟨_, pr2⟩⟩⟩
  have G_find_function : Fnn l.prog w K mg base 1 "find_function" ["functions", "name"] f_find_function := ok_find_function T  F3 (PySem.W.mg_of X G a3)
  have G_value_of : Fnn l.prog w K mg base 9 "value_of" ["expression", "variables"] (f_value_of 8) := ok_value_of T  F4 (PySem.W.mg_of X G a4) 8
  have G_compares : Fnn l.prog w K mg base 1 "compares" ["sign", "left", "right"] f_compares := ok_compares T  F5 (PySem.W.mg_of X G a5)
  have G_truth_of : Fnn l.prog w K mg base 18 "truth_of" ["condition", "variables"] (f_truth_of 8) := ok_truth_of T G_value_of G_compares F6 (PySem.W.mg_of X G a6) 8
  have G_Watch___init__ : Fii l.prog w K mg base 1 (ca 4) ["self", "place"] (f_Watch___init__ ca) := ok_Watch___init__ T  F7 ⟨mk4, a7, i7, kc4⟩
  have G_Watch_next_atom : Fmm l.prog w K mg base 1 (ca 4) "next_atom" ["self"] (f_Watch_next_atom ca) := ok_Watch_next_atom T  F8 ⟨a8, i8, k8⟩
  have G_Watch_wanted : Fmm l.prog w K mg base 2 (ca 4) "wanted" ["self", "event"] (f_Watch_wanted ca) := ok_Watch_wanted T G_Watch_next_atom F9 ⟨a9, i9, k9⟩
  have G_Watch_meets : Fmm l.prog w K mg base 3 (ca 4) "meets" ["self", "event", "truth"] (f_Watch_meets ca) := ok_Watch_meets T G_Watch_next_atom G_Watch_wanted F10 ⟨a10, i10, k10⟩
  have G_Watch_see : Fmm l.prog w K mg base 4 (ca 4) "see" ["self", "event", "truth"] (f_Watch_see ca) := ok_Watch_see T G_Watch_meets F11 ⟨a11, i11, k11⟩
  have G_Run___init__ : Fii l.prog w K mg base 3 (ca 5) ["self", "place"] (f_Run___init__ ca) := ok_Run___init__ T G_Watch___init__ F12 ⟨mk5, a12, i12, kc5⟩
  have G_Run_sees : Fmm l.prog w K mg base 19 (ca 5) "sees" ["self", "event", "variables"] (f_Run_sees ca) := ok_Run_sees T G_truth_of G_Watch_wanted G_Watch_see F13 ⟨a13, i13, k13⟩
  have G_Run_happen : Fmm l.prog w K mg base 20 (ca 5) "happen" ["self", "event", "variables"] (f_Run_happen ca) := ok_Run_happen T G_Run_sees F14 ⟨a14, i14, k14⟩
  have G_Run_fault : Fmm l.prog w K mg base 21 (ca 5) "fault" ["self", "row", "kind", "variables"] (f_Run_fault ca) := ok_Run_fault T G_Run_happen F15 ⟨a15, i15, k15⟩
  have G_Frame___init__ : Fii l.prog w K mg base 1 (ca 6) ["self", "variables"] (f_Frame___init__ ca) := ok_Frame___init__ T  F16 ⟨mk6, a16, i16, kc6⟩
  have G_is_integer : Fnn l.prog w K mg base 1 "is_integer" ["number"] f_is_integer := ok_is_integer T  F17 (PySem.W.mg_of X G a17)
  have G_is_input : Fnn l.prog w K mg base 3 "is_input" ["program", "inputs"] (f_is_input ca) := ok_is_input T G_Program_unknowns G_is_integer F18 (PySem.W.mg_of X G a18)
  have G_input_variables : Fnn l.prog w K mg base 1 "input_variables" ["program", "inputs"] (f_input_variables ca) := ok_input_variables T  F19 (PySem.W.mg_of X G a19)
  have G_store : Fnn l.prog w K mg base 22 "store" ["run", "frame", "row", "name", "value"] (f_store ca) := ok_store T G_Run_fault F20 (PySem.W.mg_of X G a20)
  have G_do_let : Fnn l.prog w K mg base 23 "do_let" ["run", "frame", "statement"] (f_do_let ca) := ok_do_let T G_value_of G_store F21 (PySem.W.mg_of X G a21)
  have G_do_list : Fnn l.prog w K mg base 22 "do_list" ["run", "frame", "statement"] (f_do_list ca) := ok_do_list T G_value_of G_Run_fault F22 (PySem.W.mg_of X G a22)
  have G_do_put : Fnn l.prog w K mg base 22 "do_put" ["run", "frame", "statement"] (f_do_put ca) := ok_do_put T G_value_of G_Run_fault F23 (PySem.W.mg_of X G a23)
  have G_ask : Fnn l.prog w K mg base 21 "ask" ["run", "frame", "statement"] (f_ask ca) := ok_ask T G_truth_of G_Run_happen F24 (PySem.W.mg_of X G a24)
  have G_do_check : Fnn l.prog w K mg base 22 "do_check" ["run", "frame", "statement"] (f_do_check ca) := ok_do_check T G_Run_fault G_ask F25 (PySem.W.mg_of X G a25)
  have G_do_result : Fnn l.prog w K mg base 22 "do_result" ["run", "frame", "statement"] (f_do_result ca) := ok_do_result T G_value_of G_Run_fault F26 (PySem.W.mg_of X G a26)
  have G_do_plain : Fnn l.prog w K mg base 24 "do_plain" ["run", "frame", "statement"] (f_do_plain ca) := ok_do_plain T G_value_of G_Run_fault G_store G_do_let G_do_list G_do_put G_do_result F27 (PySem.W.mg_of X G a27)
  have G_scc_do_call := ok_scc_do_call (P := l.prog) (w := w) (base := base) T G_find_function G_value_of G_Run_happen G_Run_fault G_Frame___init__ G_store G_ask G_do_check G_do_plain F28 (PySem.W.mg_of X G a28) F29 (PySem.W.mg_of X G a29) F30 (PySem.W.mg_of X G a30) F31 (PySem.W.mg_of X G a31) F32 (PySem.W.mg_of X G a32) 30
  have G_do_call : Fnn l.prog w K mg base 55 "do_call" ["run", "program", "frame", "statement"] (f_do_call ca 30) := G_scc_do_call.1
  have G_do_if : Fnn l.prog w K mg base 55 "do_if" ["run", "program", "frame", "statement"] (f_do_if ca 30) := G_scc_do_call.2.1
  have G_do_while : Fnn l.prog w K mg base 55 "do_while" ["run", "program", "frame", "statement"] (f_do_while ca 30) := G_scc_do_call.2.2.1
  have G_do_statement : Fnn l.prog w K mg base 55 "do_statement" ["run", "program", "frame", "statement"] (f_do_statement ca 30) := G_scc_do_call.2.2.2.1
  have G_do_block : Fnn l.prog w K mg base 55 "do_block" ["run", "program", "frame", "block"] (f_do_block ca 30) := G_scc_do_call.2.2.2.2
  have G_run_program : Fnxd l.prog w K mg base ca 56 "run_program" ["program", "inputs", "place"] (f_run_program ca) [.tup []] := ok_run_program T G_Run___init__ G_Frame___init__ G_is_input G_input_variables G_do_block F33 ⟨⟨_, _, _, _, _, _, _, _, _, _, rfl, l33, c33, .inl ⟨rfl, rfl⟩, .inr ⟨DD33, rfl, fun q hq => by simp only [List.mem_cons, List.not_mem_nil, or_false] at hq; subst hq; exact ⟨_, kw33, rfl⟩⟩⟩, k33⟩ ⟨_, _, _, _, kt33, of_decide_eq_true zgk33⟩ (PySem.W.mg_of X G a33)
  have G_law_draws : Fnn l.prog w K mg base 1 "_law_draws" ["_law_script", "_law_many"] f_law_draws := ok_law_draws T  F34 (PySem.W.mg_of X G a34)
  have G_law_take : Fnn l.prog w K mg base 1 "_law_take" ["_law_hand", "_law_many"] f_law_take := ok_law_take T  F35 (PySem.W.mg_of X G a35)
  have G_law_same : Fnn l.prog w K mg base 9 "_law_same" ["_law_found", "_law_expected"] (f_law_same 8) := ok_law_same T  F36 (PySem.W.mg_of X G a36) 8
  have G_law_program : Fnn l.prog w K mg base 3 "_law_program" ["_law_draws_here"] (f_law_program ca) := ok_law_program T G_Program___init__ F37 (PySem.W.mg_of X G a37)
  have G_law_first : Fnn l.prog w K mg base 1 "_law_first" ["_law_events", "_law_draws_here", "_law_value"] f_law_first := ok_law_first T  F38 (PySem.W.mg_of X G a38)
  have G_law_second : Fnn l.prog w K mg base 2 "_law_second" ["_law_events", "_law_draws_here", "_law_value"] f_law_second := ok_law_second T G_law_first F39 (PySem.W.mg_of X G a39)
  have G_law_steps : Fnn l.prog w K mg base 3 "_law_steps" ["_law_draws_here", "_law_a", "_law_b"] f_law_steps := ok_law_steps T G_law_first G_law_second F40 (PySem.W.mg_of X G a40)
  have G_law_told : Fnn l.prog w K mg base 57 "_law_told" ["_law_program_here", "_law_inputs"] (f_law_told ca) := ok_law_told T G_run_program F41 (PySem.W.mg_of X G a41)
  have G_law_base : Fnn l.prog w K mg base 57 "_law_base" ["_law_program_here", "_law_inputs"] (f_law_base ca) := ok_law_base T G_run_program F42 (PySem.W.mg_of X G a42)
  exact fn_law T G_run_program G_law_draws G_law_take G_law_same G_law_program G_law_steps G_law_told G_law_base F43
end Lk13

/-! the end of k13, printed by gen.py -/
namespace Lk13
open PySem PySem.Spec L2 M
theorem walk {l : PySem.W.OpenLaw} {q : Program} {loose : List Str} {XP : (Str → Option Value) → Heap → Prop} {YP : World → Heap → Prop} {d : DefRec} {K : Params → PySem.W.Frag} (hn : l.most = some 63) (hdf : d.params.defaults = [])
    (hY : ∀ (w : World) (h : Heap), YP w h → (K w.params).In h)
    (F : ∀ (w : World) (mg : Str → Option Value) (fa : Addr) (h : Heap), (K w.params).In h → h.Ns mainGlobals mg → mg d.name = some (.ref fa) →
      ∃ (ca : Nat → Addr) (fd : FuncData), (∀ (s : Shared) (u : Value), BindsTo s fd ⟨[u], []⟩ [("_law_script", u)]) ∧ ∀ base : Heap, (K w.params).In base → base.Ns mainGlobals mg → FnOk l.prog w (K w.params) mg base CX0 58 fa fd ["_law_script"] (spM (K w.params) 1 (f_law ca))) :
    PySem.W.WalkO q loose XP YP l.row.toRowW d [] (fun f vs => PySem.call f vs) :=
  L2.walk_ofB (n := 63) (k := 58) (x := "_law_script") (CX := fun _ => CX0) (sp := fun w => spLw (K w.params)) hn (by decide) hdf ⟨rfl, by decide, by decide⟩ hY (fun w mg fa h a b c => by
    obtain ⟨ca, fd, hb, hF⟩ := F w mg fa h a b c
    exact ⟨fd, hb, fun base x y => (hF base x y).imp (spLw_imp (law_true ca))⟩) (fun w H a ns hl hb _ hS => ⟨a, ns, rfl, hS, hl, hb, fun v H' e => e⟩) fun _ _ _ _ _ z => z
end Lk13
open PySem PySem.W PyProof.Rows
set_option maxRecDepth 100000 in
set_option maxHeartbeats 0 in
theorem PySem.Challenge.cw_wayorring_k13_functions_ranges_and_input_holds : PySem.Challenge.rw_wayorring_k13_functions_ranges_and_input.Holds := by
  w_on; o_law; k_head; (case hw => w_witness2)
  k_fill
  refine Lk13.walk (l := PySem.Challenge.rw_wayorring_k13_functions_ranges_and_input) rfl rfl (fun w h Y => PySem.W.kIn_of Y) ?F
  case F =>
    intro w mg fa h KX G hmg
    refine' Lk13.all_mk KX G hmg ?aE0 ?aE1 ?aE2 ?eb0 ?et0 ?ek0 ?ed0 ?eg0 ?eh0 ?eb1 ?et1 ?ek1 ?ed1 ?eg1 ?eh1 ?eb2 ?et2 ?ek2 ?ed2 ?eg2 ?eh2 ?ea2 ?eo2 ?esp ?etk ?ex2 ?hsb2_2 ?hsb2_1 ?hsb2_0 ?hkb2_ValueError ?aC3 ?pg3 ?hd3 ?po3 ?sa3 ?mk3 ?kc3 ?nn3_inputs ?nn3_functions ?nn3_body ?aC4 ?pg4 ?hd4 ?po4 ?sa4 ?mk4 ?kc4 ?nn4_place ?nn4_progress ?aC5 ?pg5 ?hd5 ?po5 ?sa5 ?mk5 ?kc5 ?nn5_outcome ?nn5_events ?nn5_met ?nn5_watch ?aC6 ?pg6 ?hd6 ?po6 ?sa6 ?mk6 ?kc6 ?nn6_variables ?nn6_ranges ?a1 ?i1 ?l1 ?c1 ?k1 ?a2 ?pq2 ?pt2 ?pr2 ?l2 ?c2 ?k2 ?a3 ?l3 ?c3 ?k3 ?a4 ?l4 ?c4 ?k4 ?a5 ?l5 ?c5 ?k5 ?a6 ?l6 ?c6 ?k6 ?a7 ?i7 ?l7 ?c7 ?k7 ?a8 ?i8 ?l8 ?c8 ?k8 ?a9 ?i9 ?l9 ?c9 ?k9 ?a10 ?i10 ?l10 ?c10 ?k10 ?a11 ?i11 ?l11 ?c11 ?k11 ?a12 ?i12 ?l12 ?c12 ?k12 ?a13 ?i13 ?l13 ?c13 ?k13 ?a14 ?i14 ?l14 ?c14 ?k14 ?a15 ?i15 ?l15 ?c15 ?k15 ?a16 ?i16 ?l16 ?c16 ?k16 ?a17 ?l17 ?c17 ?k17 ?a18 ?l18 ?c18 ?k18 ?a19 ?l19 ?c19 ?k19 ?a20 ?l20 ?c20 ?k20 ?a21 ?l21 ?c21 ?k21 ?a22 ?l22 ?c22 ?k22 ?a23 ?l23 ?c23 ?k23 ?a24 ?l24 ?c24 ?k24 ?a25 ?l25 ?c25 ?k25 ?a26 ?l26 ?c26 ?k26 ?a27 ?l27 ?c27 ?k27 ?a28 ?l28 ?c28 ?k28 ?a29 ?l29 ?c29 ?k29 ?a30 ?l30 ?c30 ?k30 ?a31 ?l31 ?c31 ?k31 ?a32 ?l32 ?c32 ?k32 ?a33 ?l33 ?kw33 ?kt33 ?zgk33 ?c33 ?k33 ?a34 ?l34 ?c34 ?k34 ?a35 ?l35 ?c35 ?k35 ?a36 ?l36 ?c36 ?k36 ?a37 ?l37 ?c37 ?k37 ?a38 ?l38 ?c38 ?k38 ?a39 ?l39 ?c39 ?k39 ?a40 ?l40 ?c40 ?k40 ?a41 ?l41 ?c41 ?k41 ?a42 ?l42 ?c42 ?k42 ?a43 ?l43 ?c43 ?k43 ?z0 ?z1 ?z2 ?z3 ?z4 ?z5 ?z6 ?z7 ?z8 ?z9 ?z10 ?z11 ?z12
    (case aE0 => k_is); (case aE1 => k_is); (case aE2 => k_is); (case eb0 => k_is); (case et0 => k_is); (case ek0 => k_is)
    (case ed0 => k_is); (case eg0 => k_is); (case eh0 => k_is); (case eb1 => k_is); (case et1 => k_is); (case ek1 => k_is)
    (case ed1 => k_is); (case eg1 => k_is); (case eh1 => k_is); (case eb2 => k_is); (case et2 => k_is); (case ek2 => k_is)
    (case ed2 => k_is); (case eg2 => k_is); (case eh2 => k_is); (case ea2 => k_is); (case eo2 => k_is); (case esp => k_is)
    (case etk => k_is); (case ex2 => k_exc); (case hsb2_2 => k_is); (case hsb2_1 => k_is); (case hsb2_0 => k_is); (case hkb2_ValueError => k_is)
    (case aC3 => k_is); (case pg3 => k_is); (case hd3 => k_is); (case po3 => k_is); (case sa3 => k_is); (case mk3 => k_is)
    (case kc3 => k_is); (case nn3_inputs => k_is); (case nn3_functions => k_is); (case nn3_body => k_is); (case aC4 => k_is); (case pg4 => k_is)
    (case hd4 => k_is); (case po4 => k_is); (case sa4 => k_is); (case mk4 => k_is); (case kc4 => k_is); (case nn4_place => k_is)
    (case nn4_progress => k_is); (case aC5 => k_is); (case pg5 => k_is); (case hd5 => k_is); (case po5 => k_is); (case sa5 => k_is)
    (case mk5 => k_is); (case kc5 => k_is); (case nn5_outcome => k_is); (case nn5_events => k_is); (case nn5_met => k_is); (case nn5_watch => k_is)
    (case aC6 => k_is); (case pg6 => k_is); (case hd6 => k_is); (case po6 => k_is); (case sa6 => k_is); (case mk6 => k_is)
    (case kc6 => k_is); (case nn6_variables => k_is); (case nn6_ranges => k_is); (case a1 => k_is); (case i1 => k_is); (case l1 => k_is)
    (case c1 => k_is); (case k1 => k_is); (case a2 => k_is); (case pq2 => k_is); (case pt2 => k_is); (case pr2 => k_is)
    (case l2 => k_is); (case c2 => k_is); (case k2 => k_is); (case a3 => k_is); (case l3 => k_is); (case c3 => k_is)
    (case k3 => k_is); (case a4 => k_is); (case l4 => k_is); (case c4 => k_is); (case k4 => k_is); (case a5 => k_is)
    (case l5 => k_is); (case c5 => k_is); (case k5 => k_is); (case a6 => k_is); (case l6 => k_is); (case c6 => k_is)
    (case k6 => k_is); (case a7 => k_is); (case i7 => k_is); (case l7 => k_is); (case c7 => k_is); (case k7 => k_is)
    (case a8 => k_is); (case i8 => k_is); (case l8 => k_is); (case c8 => k_is); (case k8 => k_is); (case a9 => k_is)
    (case i9 => k_is); (case l9 => k_is); (case c9 => k_is); (case k9 => k_is); (case a10 => k_is); (case i10 => k_is)
    (case l10 => k_is); (case c10 => k_is); (case k10 => k_is); (case a11 => k_is); (case i11 => k_is); (case l11 => k_is)
    (case c11 => k_is); (case k11 => k_is); (case a12 => k_is); (case i12 => k_is); (case l12 => k_is); (case c12 => k_is)
    (case k12 => k_is); (case a13 => k_is); (case i13 => k_is); (case l13 => k_is); (case c13 => k_is); (case k13 => k_is)
    (case a14 => k_is); (case i14 => k_is); (case l14 => k_is); (case c14 => k_is); (case k14 => k_is); (case a15 => k_is)
    (case i15 => k_is); (case l15 => k_is); (case c15 => k_is); (case k15 => k_is); (case a16 => k_is); (case i16 => k_is)
    (case l16 => k_is); (case c16 => k_is); (case k16 => k_is); (case a17 => k_is); (case l17 => k_is); (case c17 => k_is)
    (case k17 => k_is); (case a18 => k_is); (case l18 => k_is); (case c18 => k_is); (case k18 => k_is); (case a19 => k_is)
    (case l19 => k_is); (case c19 => k_is); (case k19 => k_is); (case a20 => k_is); (case l20 => k_is); (case c20 => k_is)
    (case k20 => k_is); (case a21 => k_is); (case l21 => k_is); (case c21 => k_is); (case k21 => k_is); (case a22 => k_is)
    (case l22 => k_is); (case c22 => k_is); (case k22 => k_is); (case a23 => k_is); (case l23 => k_is); (case c23 => k_is)
    (case k23 => k_is); (case a24 => k_is); (case l24 => k_is); (case c24 => k_is); (case k24 => k_is); (case a25 => k_is)
    (case l25 => k_is); (case c25 => k_is); (case k25 => k_is); (case a26 => k_is); (case l26 => k_is); (case c26 => k_is)
    (case k26 => k_is); (case a27 => k_is); (case l27 => k_is); (case c27 => k_is); (case k27 => k_is); (case a28 => k_is)
    (case l28 => k_is); (case c28 => k_is); (case k28 => k_is); (case a29 => k_is); (case l29 => k_is); (case c29 => k_is)
    (case k29 => k_is); (case a30 => k_is); (case l30 => k_is); (case c30 => k_is); (case k30 => k_is); (case a31 => k_is)
    (case l31 => k_is); (case c31 => k_is); (case k31 => k_is); (case a32 => k_is); (case l32 => k_is); (case c32 => k_is)
    (case k32 => k_is); (case a33 => k_is); (case l33 => k_is); (case kw33 => k_is); (case kt33 => k_is); (case zgk33 => first | k_is | rfl | decide +kernel)
    (case c33 => k_is); (case k33 => k_is); (case a34 => k_is); (case l34 => k_is); (case c34 => k_is); (case k34 => k_is)
    (case a35 => k_is); (case l35 => k_is); (case c35 => k_is); (case k35 => k_is); (case a36 => k_is); (case l36 => k_is)
    (case c36 => k_is); (case k36 => k_is); (case a37 => k_is); (case l37 => k_is); (case c37 => k_is); (case k37 => k_is)
    (case a38 => k_is); (case l38 => k_is); (case c38 => k_is); (case k38 => k_is); (case a39 => k_is); (case l39 => k_is)
    (case c39 => k_is); (case k39 => k_is); (case a40 => k_is); (case l40 => k_is); (case c40 => k_is); (case k40 => k_is)
    (case a41 => k_is); (case l41 => k_is); (case c41 => k_is); (case k41 => k_is); (case a42 => k_is); (case l42 => k_is)
    (case c42 => k_is); (case k42 => k_is); (case a43 => k_is); (case l43 => k_is); (case c43 => k_is); (case k43 => k_is)
    (case z0 => k_is); (case z1 => k_is); (case z2 => k_is); (case z3 => k_is); (case z4 => k_is); (case z5 => k_is)
    (case z6 => k_is); (case z7 => k_is); (case z8 => k_is); (case z9 => k_is); (case z10 => k_is); (case z11 => k_is)
    (case z12 => k_is)
#print axioms PySem.Challenge.cw_wayorring_k13_functions_ranges_and_input_holds

